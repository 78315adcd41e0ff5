import PyProof.Rows.All
import Wide.All
import OpenK.AllK
import Wide.FinOn
import HandS.Base
import HandS.Call
import HandS.Ends
import HandS.Words
import HandS.Defaults
import HandS.HeadHook1
import HandS.HeadHook2
import PySem.Challenge.RW_windfigure_k59_whole_shores_in_all_winds
import KE.KStateDown
import Lean
import HandS.More
import HandS.WordsExc
import HandS.Head0
import HandS.Head1
import HandS.Head2
import HandS.Head3
import HandS.HeadEnd
import HandS.List
import HandS.Comp
import HandS.Style
import HandS.Flow
import HandS.Gcd
import HandS.IsInst
import KE.KMathGC
import PyProof.Rows.SeqMore
import HandS.TupSets
import HandS.SetBool
import HandS.Iter
import KE.GoesMore
import PyProof.EnumMake
import HandS.RaiseMore
set_option Elab.async false
set_option linter.all false
set_option maxRecDepth 100000
/-! the defs of the linked text by their places, their slots (printed by gen_text.py) -/
namespace Wf
open PySem PySem.Spec PyProof.Rows L2
def top (i : Nat) : Stmt := PySem.Challenge.pw_windfigure_k59_whole_shores_in_all_winds.main.body.getD i (.Pass ⟨0, 0, 0, 0⟩)
abbrev FnP (K : PySem.W.Frag) (x : Str) (st : Stmt) (f : Addr) (fd : FuncData) : Prop := FunD K x x (defArgs st) (defBody st) (defScope st) [] [] f fd

abbrev s_is_whole : Stmt := top 8
abbrev n_is_whole : List Str := ["value"]
abbrev p_is_whole : List Str := ["value"]
theorem c_is_whole : FnScope n_is_whole p_is_whole (defScope s_is_whole) := ⟨rfl, rfl, rfl, by decide +kernel, rfl, by decide +kernel, by decide +kernel⟩
def d_is_whole : He.DefD := ⟨("is_whole", none), "is_whole", "is_whole", defArgs s_is_whole, defBody s_is_whole, defScope s_is_whole, [], []⟩
abbrev s_are_wholes : Stmt := top 9
abbrev n_are_wholes : List Str := ["value", "many", "number"]
abbrev p_are_wholes : List Str := ["value", "many"]
theorem c_are_wholes : FnScope n_are_wholes p_are_wholes (defScope s_are_wholes) := ⟨rfl, rfl, rfl, by decide +kernel, rfl, by decide +kernel, by decide +kernel⟩
def d_are_wholes : He.DefD := ⟨("are_wholes", none), "are_wholes", "are_wholes", defArgs s_are_wholes, defBody s_are_wholes, defScope s_are_wholes, [], []⟩
abbrev s_common_divisor : Stmt := top 10
abbrev n_common_divisor : List Str := ["numbers", "found", "number"]
abbrev p_common_divisor : List Str := ["numbers"]
theorem c_common_divisor : FnScope n_common_divisor p_common_divisor (defScope s_common_divisor) := ⟨rfl, rfl, rfl, by decide +kernel, rfl, by decide +kernel, by decide +kernel⟩
def d_common_divisor : He.DefD := ⟨("common_divisor", none), "common_divisor", "common_divisor", defArgs s_common_divisor, defBody s_common_divisor, defScope s_common_divisor, [], []⟩
abbrev s_lowest : Stmt := top 11
abbrev n_lowest : List Str := ["numbers", "divisor", "number"]
abbrev p_lowest : List Str := ["numbers"]
theorem c_lowest : FnScope n_lowest p_lowest (defScope s_lowest) := ⟨rfl, rfl, rfl, by decide +kernel, rfl, by decide +kernel, by decide +kernel⟩
def d_lowest : He.DefD := ⟨("lowest", none), "lowest", "lowest", defArgs s_lowest, defBody s_lowest, defScope s_lowest, [], []⟩
abbrev s_is_lowest : Stmt := top 12
abbrev n_is_lowest : List Str := ["numbers"]
abbrev p_is_lowest : List Str := ["numbers"]
theorem c_is_lowest : FnScope n_is_lowest p_is_lowest (defScope s_is_lowest) := ⟨rfl, rfl, rfl, by decide +kernel, rfl, by decide +kernel, by decide +kernel⟩
def d_is_lowest : He.DefD := ⟨("is_lowest", none), "is_lowest", "is_lowest", defArgs s_is_lowest, defBody s_is_lowest, defScope s_is_lowest, [], []⟩
abbrev s_ratio : Stmt := top 14
abbrev n_ratio : List Str := ["over", "under"]
abbrev p_ratio : List Str := ["over", "under"]
theorem c_ratio : FnScope n_ratio p_ratio (defScope s_ratio) := ⟨rfl, rfl, rfl, by decide +kernel, rfl, by decide +kernel, by decide +kernel⟩
def d_ratio : He.DefD := ⟨("ratio", none), "ratio", "ratio", defArgs s_ratio, defBody s_ratio, defScope s_ratio, [], []⟩
abbrev s_ratio_product : Stmt := top 15
abbrev n_ratio_product : List Str := ["one", "two"]
abbrev p_ratio_product : List Str := ["one", "two"]
theorem c_ratio_product : FnScope n_ratio_product p_ratio_product (defScope s_ratio_product) := ⟨rfl, rfl, rfl, by decide +kernel, rfl, by decide +kernel, by decide +kernel⟩
def d_ratio_product : He.DefD := ⟨("ratio_product", none), "ratio_product", "ratio_product", defArgs s_ratio_product, defBody s_ratio_product, defScope s_ratio_product, [], []⟩
abbrev s_is_lower : Stmt := top 16
abbrev n_is_lower : List Str := ["one", "two"]
abbrev p_is_lower : List Str := ["one", "two"]
theorem c_is_lower : FnScope n_is_lower p_is_lower (defScope s_is_lower) := ⟨rfl, rfl, rfl, by decide +kernel, rfl, by decide +kernel, by decide +kernel⟩
def d_is_lower : He.DefD := ⟨("is_lower", none), "is_lower", "is_lower", defArgs s_is_lower, defBody s_is_lower, defScope s_is_lower, [], []⟩
abbrev s_is_vector : Stmt := top 19
abbrev n_is_vector : List Str := ["value"]
abbrev p_is_vector : List Str := ["value"]
theorem c_is_vector : FnScope n_is_vector p_is_vector (defScope s_is_vector) := ⟨rfl, rfl, rfl, by decide +kernel, rfl, by decide +kernel, by decide +kernel⟩
def d_is_vector : He.DefD := ⟨("is_vector", none), "is_vector", "is_vector", defArgs s_is_vector, defBody s_is_vector, defScope s_is_vector, [], []⟩
abbrev s_step_between : Stmt := top 20
abbrev n_step_between : List Str := ["one", "two"]
abbrev p_step_between : List Str := ["one", "two"]
theorem c_step_between : FnScope n_step_between p_step_between (defScope s_step_between) := ⟨rfl, rfl, rfl, by decide +kernel, rfl, by decide +kernel, by decide +kernel⟩
def d_step_between : He.DefD := ⟨("step_between", none), "step_between", "step_between", defArgs s_step_between, defBody s_step_between, defScope s_step_between, [], []⟩
abbrev s_along : Stmt := top 21
abbrev n_along : List Str := ["normal", "point"]
abbrev p_along : List Str := ["normal", "point"]
theorem c_along : FnScope n_along p_along (defScope s_along) := ⟨rfl, rfl, rfl, by decide +kernel, rfl, by decide +kernel, by decide +kernel⟩
def d_along : He.DefD := ⟨("along", none), "along", "along", defArgs s_along, defBody s_along, defScope s_along, [], []⟩
abbrev s_is_pointing : Stmt := top 22
abbrev n_is_pointing : List Str := ["value"]
abbrev p_is_pointing : List Str := ["value"]
theorem c_is_pointing : FnScope n_is_pointing p_is_pointing (defScope s_is_pointing) := ⟨rfl, rfl, rfl, by decide +kernel, rfl, by decide +kernel, by decide +kernel⟩
def d_is_pointing : He.DefD := ⟨("is_pointing", none), "is_pointing", "is_pointing", defArgs s_is_pointing, defBody s_is_pointing, defScope s_is_pointing, [], []⟩
abbrev s_is_border : Stmt := top 25
abbrev n_is_border : List Str := ["value"]
abbrev p_is_border : List Str := ["value"]
theorem c_is_border : FnScope n_is_border p_is_border (defScope s_is_border) := ⟨rfl, rfl, rfl, by decide +kernel, rfl, by decide +kernel, by decide +kernel⟩
def d_is_border : He.DefD := ⟨("is_border", none), "is_border", "is_border", defArgs s_is_border, defBody s_is_border, defScope s_is_border, [], []⟩
abbrev s_side_at : Stmt := top 26
abbrev n_side_at : List Str := ["normal", "point", "a", "b", "x", "y", "w"]
abbrev p_side_at : List Str := ["normal", "point"]
theorem c_side_at : FnScope n_side_at p_side_at (defScope s_side_at) := ⟨rfl, rfl, rfl, by decide +kernel, rfl, by decide +kernel, by decide +kernel⟩
def d_side_at : He.DefD := ⟨("side_at", none), "side_at", "side_at", defArgs s_side_at, defBody s_side_at, defScope s_side_at, [], []⟩
abbrev s_side_left : Stmt := top 27
abbrev n_side_left : List Str := ["one", "two", "u", "v"]
abbrev p_side_left : List Str := ["one", "two"]
theorem c_side_left : FnScope n_side_left p_side_left (defScope s_side_left) := ⟨rfl, rfl, rfl, by decide +kernel, rfl, by decide +kernel, by decide +kernel⟩
def d_side_left : He.DefD := ⟨("side_left", none), "side_left", "side_left", defArgs s_side_left, defBody s_side_left, defScope s_side_left, [], []⟩
abbrev s_value_at : Stmt := top 28
abbrev n_value_at : List Str := ["side", "point"]
abbrev p_value_at : List Str := ["side", "point"]
theorem c_value_at : FnScope n_value_at p_value_at (defScope s_value_at) := ⟨rfl, rfl, rfl, by decide +kernel, rfl, by decide +kernel, by decide +kernel⟩
def d_value_at : He.DefD := ⟨("value_at", none), "value_at", "value_at", defArgs s_value_at, defBody s_value_at, defScope s_value_at, [], []⟩
abbrev s_are_held : Stmt := top 29
abbrev n_are_held : List Str := ["borders", "point", "side"]
abbrev p_are_held : List Str := ["borders", "point"]
theorem c_are_held : FnScope n_are_held p_are_held (defScope s_are_held) := ⟨rfl, rfl, rfl, by decide +kernel, rfl, by decide +kernel, by decide +kernel⟩
def d_are_held : He.DefD := ⟨("are_held", none), "are_held", "are_held", defArgs s_are_held, defBody s_are_held, defScope s_are_held, [], []⟩
abbrev s_chain : Stmt := top 30
abbrev n_chain : List Str := ["rows", "found", "row"]
abbrev p_chain : List Str := ["rows"]
theorem c_chain : FnScope n_chain p_chain (defScope s_chain) := ⟨rfl, rfl, rfl, by decide +kernel, rfl, by decide +kernel, by decide +kernel⟩
def d_chain : He.DefD := ⟨("chain", none), "chain", "chain", defArgs s_chain, defBody s_chain, defScope s_chain, [], []⟩
abbrev s_is_left : Stmt := top 31
abbrev n_is_left : List Str := ["one", "two", "three"]
abbrev p_is_left : List Str := ["one", "two", "three"]
theorem c_is_left : FnScope n_is_left p_is_left (defScope s_is_left) := ⟨rfl, rfl, rfl, by decide +kernel, rfl, by decide +kernel, by decide +kernel⟩
def d_is_left : He.DefD := ⟨("is_left", none), "is_left", "is_left", defArgs s_is_left, defBody s_is_left, defScope s_is_left, [], []⟩
abbrev s_hull : Stmt := top 32
abbrev n_hull : List Str := ["points", "under", "point", "rows", "found", "x", "y", "w"]
abbrev p_hull : List Str := ["points"]
theorem c_hull : FnScope n_hull p_hull (defScope s_hull) := ⟨rfl, rfl, rfl, by decide +kernel, rfl, by decide +kernel, by decide +kernel⟩
def d_hull : He.DefD := ⟨("hull", none), "hull", "hull", defArgs s_hull, defBody s_hull, defScope s_hull, [], []⟩
abbrev s_is_shape : Stmt := top 33
abbrev n_is_shape : List Str := ["value", "corner"]
abbrev p_is_shape : List Str := ["value"]
theorem c_is_shape : FnScope n_is_shape p_is_shape (defScope s_is_shape) := ⟨rfl, rfl, rfl, by decide +kernel, rfl, by decide +kernel, by decide +kernel⟩
def d_is_shape : He.DefD := ⟨("is_shape", none), "is_shape", "is_shape", defArgs s_is_shape, defBody s_is_shape, defScope s_is_shape, [], []⟩
abbrev s_next_corner : Stmt := top 34
abbrev n_next_corner : List Str := ["polygon", "at"]
abbrev p_next_corner : List Str := ["polygon", "at"]
theorem c_next_corner : FnScope n_next_corner p_next_corner (defScope s_next_corner) := ⟨rfl, rfl, rfl, by decide +kernel, rfl, by decide +kernel, by decide +kernel⟩
def d_next_corner : He.DefD := ⟨("next_corner", none), "next_corner", "next_corner", defArgs s_next_corner, defBody s_next_corner, defScope s_next_corner, [], []⟩
abbrev s_sides : Stmt := top 35
abbrev n_sides : List Str := ["polygon", "one", "two", "u", "v", "at", "corner", "normal"]
abbrev p_sides : List Str := ["polygon"]
theorem c_sides : FnScope n_sides p_sides (defScope s_sides) := ⟨rfl, rfl, rfl, by decide +kernel, rfl, by decide +kernel, by decide +kernel⟩
def d_sides : He.DefD := ⟨("sides", none), "sides", "sides", defArgs s_sides, defBody s_sides, defScope s_sides, [], []⟩
abbrev s_has : Stmt := top 36
abbrev n_has : List Str := ["polygon", "point"]
abbrev p_has : List Str := ["polygon", "point"]
theorem c_has : FnScope n_has p_has (defScope s_has) := ⟨rfl, rfl, rfl, by decide +kernel, rfl, by decide +kernel, by decide +kernel⟩
def d_has : He.DefD := ⟨("has", none), "has", "has", defArgs s_has, defBody s_has, defScope s_has, [], []⟩
abbrev s_support : Stmt := top 37
abbrev n_support : List Str := ["polygon", "normal", "best", "corner", "value"]
abbrev p_support : List Str := ["polygon", "normal"]
theorem c_support : FnScope n_support p_support (defScope s_support) := ⟨rfl, rfl, rfl, by decide +kernel, rfl, by decide +kernel, by decide +kernel⟩
def d_support : He.DefD := ⟨("support", none), "support", "support", defArgs s_support, defBody s_support, defScope s_support, [], []⟩
abbrev s_check_point : Stmt := top 39
abbrev n_check_point : List Str := ["value"]
abbrev p_check_point : List Str := ["value"]
theorem c_check_point : FnScope n_check_point p_check_point (defScope s_check_point) := ⟨rfl, rfl, rfl, by decide +kernel, rfl, by decide +kernel, by decide +kernel⟩
def d_check_point : He.DefD := ⟨("check_point", none), "check_point", "check_point", defArgs s_check_point, defBody s_check_point, defScope s_check_point, [], []⟩
abbrev s_check_side : Stmt := top 40
abbrev n_check_side : List Str := ["value"]
abbrev p_check_side : List Str := ["value"]
theorem c_check_side : FnScope n_check_side p_check_side (defScope s_check_side) := ⟨rfl, rfl, rfl, by decide +kernel, rfl, by decide +kernel, by decide +kernel⟩
def d_check_side : He.DefD := ⟨("check_side", none), "check_side", "check_side", defArgs s_check_side, defBody s_check_side, defScope s_check_side, [], []⟩
abbrev s_is_sailed : Stmt := top 41
abbrev n_is_sailed : List Str := ["value"]
abbrev p_is_sailed : List Str := ["value"]
theorem c_is_sailed : FnScope n_is_sailed p_is_sailed (defScope s_is_sailed) := ⟨rfl, rfl, rfl, by decide +kernel, rfl, by decide +kernel, by decide +kernel⟩
def d_is_sailed : He.DefD := ⟨("is_sailed", none), "is_sailed", "is_sailed", defArgs s_is_sailed, defBody s_is_sailed, defScope s_is_sailed, [], []⟩
abbrev s_check_figure : Stmt := top 42
abbrev n_check_figure : List Str := ["value"]
abbrev p_check_figure : List Str := ["value"]
theorem c_check_figure : FnScope n_check_figure p_check_figure (defScope s_check_figure) := ⟨rfl, rfl, rfl, by decide +kernel, rfl, by decide +kernel, by decide +kernel⟩
def d_check_figure : He.DefD := ⟨("check_figure", none), "check_figure", "check_figure", defArgs s_check_figure, defBody s_check_figure, defScope s_check_figure, [], []⟩
abbrev s_check_drift : Stmt := top 44
abbrev n_check_drift : List Str := ["figure", "stream", "shore"]
abbrev p_check_drift : List Str := ["figure", "stream", "shore"]
theorem c_check_drift : FnScope n_check_drift p_check_drift (defScope s_check_drift) := ⟨rfl, rfl, rfl, by decide +kernel, rfl, by decide +kernel, by decide +kernel⟩
def d_check_drift : He.DefD := ⟨("check_drift", none), "check_drift", "check_drift", defArgs s_check_drift, defBody s_check_drift, defScope s_check_drift, [], []⟩
abbrev s_holds_in_wind : Stmt := top 45
abbrev n_holds_in_wind : List Str := ["figure", "stream", "shore", "wind", "a", "b", "_", "c", "s", "drift", "far"]
abbrev p_holds_in_wind : List Str := ["figure", "stream", "shore", "wind"]
theorem c_holds_in_wind : FnScope n_holds_in_wind p_holds_in_wind (defScope s_holds_in_wind) := ⟨rfl, rfl, rfl, by decide +kernel, rfl, by decide +kernel, by decide +kernel⟩
def d_holds_in_wind : He.DefD := ⟨("holds_in_wind", none), "holds_in_wind", "holds_in_wind", defArgs s_holds_in_wind, defBody s_holds_in_wind, defScope s_holds_in_wind, [], []⟩
abbrev s_winds_off : Stmt := top 46
abbrev n_winds_off : List Str := ["figure", "stream", "shore", "over", "under", "square", "drift", "scale", "a", "b", "h", "x", "y", "w"]
abbrev p_winds_off : List Str := ["figure", "stream", "shore"]
theorem c_winds_off : FnScope n_winds_off p_winds_off (defScope s_winds_off) := ⟨rfl, rfl, rfl, by decide +kernel, rfl, by decide +kernel, by decide +kernel⟩
def d_winds_off : He.DefD := ⟨("winds_off", none), "winds_off", "winds_off", defArgs s_winds_off, defBody s_winds_off, defScope s_winds_off, [], []⟩
abbrev s__law_sack : Stmt := top 48
abbrev n__law_sack : List Str := ["_law_script", "_law_turn", "_law_cell", "_law_stir", "_law_each"]
abbrev p__law_sack : List Str := ["_law_script", "_law_turn"]
theorem c__law_sack : FnScope n__law_sack p__law_sack (defScope s__law_sack) := ⟨rfl, rfl, rfl, by decide +kernel, rfl, by decide +kernel, by decide +kernel⟩
def d__law_sack : He.DefD := ⟨("_law_sack", none), "_law_sack", "_law_sack", defArgs s__law_sack, defBody s__law_sack, defScope s__law_sack, [], []⟩
abbrev s__law_draw : Stmt := top 49
abbrev n__law_draw : List Str := ["_law_sack_here", "_law_size", "_law_digit", "_law_blend"]
abbrev p__law_draw : List Str := ["_law_sack_here", "_law_size"]
theorem c__law_draw : FnScope n__law_draw p__law_draw (defScope s__law_draw) := ⟨rfl, rfl, rfl, by decide +kernel, rfl, by decide +kernel, by decide +kernel⟩
def d__law_draw : He.DefD := ⟨("_law_draw", none), "_law_draw", "_law_draw", defArgs s__law_draw, defBody s__law_draw, defScope s__law_draw, [], []⟩
abbrev s__law_one : Stmt := top 50
abbrev n__law_one : List Str := ["_law_sack_here", "_law_some"]
abbrev p__law_one : List Str := ["_law_sack_here", "_law_some"]
theorem c__law_one : FnScope n__law_one p__law_one (defScope s__law_one) := ⟨rfl, rfl, rfl, by decide +kernel, rfl, by decide +kernel, by decide +kernel⟩
def d__law_one : He.DefD := ⟨("_law_one", none), "_law_one", "_law_one", defArgs s__law_one, defBody s__law_one, defScope s__law_one, [], []⟩
abbrev s__law_gcd : Stmt := top 51
abbrev n__law_gcd : List Str := ["_law_one_here", "_law_two"]
abbrev p__law_gcd : List Str := ["_law_one_here", "_law_two"]
theorem c__law_gcd : FnScope n__law_gcd p__law_gcd (defScope s__law_gcd) := ⟨rfl, rfl, rfl, by decide +kernel, rfl, by decide +kernel, by decide +kernel⟩
def d__law_gcd : He.DefD := ⟨("_law_gcd", none), "_law_gcd", "_law_gcd", defArgs s__law_gcd, defBody s__law_gcd, defScope s__law_gcd, [], []⟩
abbrev s__law_spot : Stmt := top 52
abbrev n__law_spot : List Str := ["_law_x", "_law_y", "_law_w", "_law_low"]
abbrev p__law_spot : List Str := ["_law_x", "_law_y", "_law_w"]
theorem c__law_spot : FnScope n__law_spot p__law_spot (defScope s__law_spot) := ⟨rfl, rfl, rfl, by decide +kernel, rfl, by decide +kernel, by decide +kernel⟩
def d__law_spot : He.DefD := ⟨("_law_spot", none), "_law_spot", "_law_spot", defArgs s__law_spot, defBody s__law_spot, defScope s__law_spot, [], []⟩
abbrev s__law_said : Stmt := top 53
abbrev n__law_said : List Str := ["_law_dots", "_law_scale", "_law_x", "_law_y"]
abbrev p__law_said : List Str := ["_law_dots", "_law_scale"]
theorem c__law_said : FnScope n__law_said p__law_said (defScope s__law_said) := ⟨rfl, rfl, rfl, by decide +kernel, rfl, by decide +kernel, by decide +kernel⟩
def d__law_said : He.DefD := ⟨("_law_said", none), "_law_said", "_law_said", defArgs s__law_said, defBody s__law_said, defScope s__law_said, [], []⟩
abbrev s__law_bend : Stmt := top 54
abbrev n__law_bend : List Str := ["_law_a", "_law_b", "_law_c"]
abbrev p__law_bend : List Str := ["_law_a", "_law_b", "_law_c"]
theorem c__law_bend : FnScope n__law_bend p__law_bend (defScope s__law_bend) := ⟨rfl, rfl, rfl, by decide +kernel, rfl, by decide +kernel, by decide +kernel⟩
def d__law_bend : He.DefD := ⟨("_law_bend", none), "_law_bend", "_law_bend", defArgs s__law_bend, defBody s__law_bend, defScope s__law_bend, [], []⟩
abbrev s__law_chain : Stmt := top 55
abbrev n__law_chain : List Str := ["_law_dots", "_law_kept", "_law_dot"]
abbrev p__law_chain : List Str := ["_law_dots"]
theorem c__law_chain : FnScope n__law_chain p__law_chain (defScope s__law_chain) := ⟨rfl, rfl, rfl, by decide +kernel, rfl, by decide +kernel, by decide +kernel⟩
def d__law_chain : He.DefD := ⟨("_law_chain", none), "_law_chain", "_law_chain", defArgs s__law_chain, defBody s__law_chain, defScope s__law_chain, [], []⟩
abbrev s__law_rim : Stmt := top 56
abbrev n__law_rim : List Str := ["_law_dots", "_law_some"]
abbrev p__law_rim : List Str := ["_law_dots"]
theorem c__law_rim : FnScope n__law_rim p__law_rim (defScope s__law_rim) := ⟨rfl, rfl, rfl, by decide +kernel, rfl, by decide +kernel, by decide +kernel⟩
def d__law_rim : He.DefD := ⟨("_law_rim", none), "_law_rim", "_law_rim", defArgs s__law_rim, defBody s__law_rim, defScope s__law_rim, [], []⟩
abbrev s__law_boat : Stmt := top 57
abbrev n__law_boat : List Str := ["_law_sack_here", "_law_dots", "_law_branch", "_law_turn", "_law_wide", "_law_high", "_law_rim_here", "_law_x", "_law_y"]
abbrev p__law_boat : List Str := ["_law_sack_here"]
theorem c__law_boat : FnScope n__law_boat p__law_boat (defScope s__law_boat) := ⟨rfl, rfl, rfl, by decide +kernel, rfl, by decide +kernel, by decide +kernel⟩
def d__law_boat : He.DefD := ⟨("_law_boat", none), "_law_boat", "_law_boat", defArgs s__law_boat, defBody s__law_boat, defScope s__law_boat, [], []⟩
abbrev s__law_side : Stmt := top 58
abbrev n__law_side : List Str := ["_law_sack_here", "_law_a", "_law_b", "_law_h", "_law_fine"]
abbrev p__law_side : List Str := ["_law_sack_here"]
theorem c__law_side : FnScope n__law_side p__law_side (defScope s__law_side) := ⟨rfl, rfl, rfl, by decide +kernel, rfl, by decide +kernel, by decide +kernel⟩
def d__law_side : He.DefD := ⟨("_law_side", none), "_law_side", "_law_side", defArgs s__law_side, defBody s__law_side, defScope s__law_side, [], []⟩
abbrev s__law_wind : Stmt := top 59
abbrev n__law_wind : List Str := ["_law_c", "_law_s", "_law_fine"]
abbrev p__law_wind : List Str := ["_law_c", "_law_s"]
theorem c__law_wind : FnScope n__law_wind p__law_wind (defScope s__law_wind) := ⟨rfl, rfl, rfl, by decide +kernel, rfl, by decide +kernel, by decide +kernel⟩
def d__law_wind : He.DefD := ⟨("_law_wind", none), "_law_wind", "_law_wind", defArgs s__law_wind, defBody s__law_wind, defScope s__law_wind, [], []⟩
abbrev s__law_is_held : Stmt := top 60
abbrev n__law_is_held : List Str := ["_law_boat_here", "_law_flow", "_law_side_here", "_law_air", "_law_a", "_law_b", "_law_h", "_law_c", "_law_s", "_law_drift", "_law_best", "_law_x", "_law_y"]
abbrev p__law_is_held : List Str := ["_law_boat_here", "_law_flow", "_law_side_here", "_law_air"]
theorem c__law_is_held : FnScope n__law_is_held p__law_is_held (defScope s__law_is_held) := ⟨rfl, rfl, rfl, by decide +kernel, rfl, by decide +kernel, by decide +kernel⟩
def d__law_is_held : He.DefD := ⟨("_law_is_held", none), "_law_is_held", "_law_is_held", defArgs s__law_is_held, defBody s__law_is_held, defScope s__law_is_held, [], []⟩
abbrev s__law_against : Stmt := top 61
abbrev n__law_against : List Str := ["_law_side_here", "_law_x", "_law_y", "_law_a", "_law_b", "_law_h"]
abbrev p__law_against : List Str := ["_law_side_here", "_law_x", "_law_y"]
theorem c__law_against : FnScope n__law_against p__law_against (defScope s__law_against) := ⟨rfl, rfl, rfl, by decide +kernel, rfl, by decide +kernel, by decide +kernel⟩
def d__law_against : He.DefD := ⟨("_law_against", none), "_law_against", "_law_against", defArgs s__law_against, defBody s__law_against, defScope s__law_against, [], []⟩
abbrev s__law_right : Stmt := top 62
abbrev n__law_right : List Str := ["_law_sack_here", "_law_boat_here", "_law_shape", "_law_rim_here", "_law_turn", "_law_flow", "_law_side_here", "_law_worst", "_law_best", "_law_due", "_law_some", "_law_lap", "_law_c", "_law_s", "_law_each", "_law_is_held_here", "_law_k", "_law_x", "_law_y"]
abbrev p__law_right : List Str := ["_law_sack_here"]
theorem c__law_right : FnScope n__law_right p__law_right (defScope s__law_right) := ⟨rfl, rfl, rfl, by decide +kernel, rfl, by decide +kernel, by decide +kernel⟩
def d__law_right : He.DefD := ⟨("_law_right", none), "_law_right", "_law_right", defArgs s__law_right, defBody s__law_right, defScope s__law_right, [], []⟩
abbrev s_law : Stmt := top 63
abbrev n_law : List Str := ["_law_script", "_law_turn"]
abbrev p_law : List Str := ["_law_script"]
theorem c_law : FnScope n_law p_law (defScope s_law) := ⟨rfl, rfl, rfl, by decide +kernel, rfl, by decide +kernel, by decide +kernel⟩
def d_law : He.DefD := ⟨("law", none), "law", "law", defArgs s_law, defBody s_law, defScope s_law, [], []⟩
def fn : List He.DefD := [d_is_whole, d_are_wholes, d_common_divisor, d_lowest, d_is_lowest, d_ratio, d_ratio_product, d_is_lower, d_is_vector, d_step_between, d_along, d_is_pointing, d_is_border, d_side_at, d_side_left, d_value_at, d_are_held, d_chain, d_is_left, d_hull, d_is_shape, d_next_corner, d_sides, d_has, d_support, d_check_point, d_check_side, d_is_sailed, d_check_figure, d_check_drift, d_holds_in_wind, d_winds_off, d__law_sack, d__law_draw, d__law_one, d__law_gcd, d__law_spot, d__law_said, d__law_bend, d__law_chain, d__law_rim, d__law_boat, d__law_side, d__law_wind, d__law_is_held, d__law_against, d__law_right, d_law]
def fa : List He.Fa := [.glo "is_whole", .glo "are_wholes", .glo "common_divisor", .glo "lowest", .glo "is_lowest", .glo "ratio", .glo "ratio_product", .glo "is_lower", .glo "is_vector", .glo "step_between", .glo "along", .glo "is_pointing", .glo "is_border", .glo "side_at", .glo "side_left", .glo "value_at", .glo "are_held", .glo "chain", .glo "is_left", .glo "hull", .glo "is_shape", .glo "next_corner", .glo "sides", .glo "has", .glo "support", .glo "check_point", .glo "check_side", .glo "is_sailed", .glo "check_figure", .glo "check_drift", .glo "holds_in_wind", .glo "winds_off", .glo "_law_sack", .glo "_law_draw", .glo "_law_one", .glo "_law_gcd", .glo "_law_spot", .glo "_law_said", .glo "_law_bend", .glo "_law_chain", .glo "_law_rim", .glo "_law_boat", .glo "_law_side", .glo "_law_wind", .glo "_law_is_held", .glo "_law_against", .glo "_law_right", .glo "law", .free "abs", .free "all", .free "any", .free "divmod", .free "enumerate", .free "int", .free "isinstance", .free "len", .free "list", .free "max", .free "min", .free "range", .free "repr", .free "set", .free "sorted", .free "tuple", .free "bool"]
def exB (K : PySem.W.Frag) : Bool := He.eqO (PySem.W.nsIn K mainGlobals "gcd") (some (some (.builtin "math.gcd"))) && He.eqO (PySem.W.nsIn K mainGlobals "lcm") (some (some (.builtin "math.lcm"))) &&
  (He.eqO (PySem.W.nsIn K mainGlobals "NOUGHT") (some (some (.ref (He.ga K "NOUGHT")))) && He.tupB K "NOUGHT" [.int 0, .int 0, .int 1])
end Wf
set_option Elab.async false
set_option linter.all false
set_option maxRecDepth 100000
set_option maxHeartbeats 0
/-! the head (printed by gen_head.py) -/
namespace Wf
open PySem PySem.Spec PyProof.Rows L2
abbrev R : PySem.W.OpenRow := PySem.W.OpenLaw.row PySem.Challenge.rw_windfigure_k59_whole_shores_in_all_winds
abbrev AlB : Type := He.AlD × Bool
def obsB (K : PySem.W.Frag) : AlB := (He.obsD fa fn K, exB K)
def SaysB (K : PySem.W.Frag) : Prop := obsB K = (He.valD fn, true)
def obsBG (n : Nat) (g : Addr → Option Obj) : AlB := obsB (He.frG g (He.asD g n))
def hookB (n : Nat) : PySem.W.Hook where
  α := AlB
  obs := fun s => obsBG n s.heap.get?
  val := fun _ => (He.valD fn, true)
  says := fun _ h => ∃ K : PySem.W.Frag, K.In h ∧ SaysB K
  of := fun _ _ e => ⟨_, He.frG_in, e⟩
  keeps := fun _ _ _ ⟨K, hK, c⟩ k => ⟨K, PySem.W.Frag.In.keeps hK k, c⟩
theorem obsBG_eq {n : Nat} {g : Addr → Option Obj} {s : Shared} (h : ∀ a, g a = s.heap.get? a) : obsBG n g = (hookB n).obs s := by
  have e : g = s.heap.get? := funext h
  rw [e] <;> rfl
theorem SaysB.d {K : PySem.W.Frag} (c : SaysB K) : He.SaysD fa fn K := congrArg (fun z : AlB => z.1) c
theorem SaysB.x {K : PySem.W.Frag} (c : SaysB K) : exB K = true := congrArg (fun z : AlB => z.2) c
abbrev hk : PySem.W.Hook := hookB 4
def ob (s : PySem.W.SharedT) : AlB := obsBG 4 (HandSHeadRun.getT s)
theorem ob_eq (s : PySem.W.SharedT) : ob s = hk.obs s.abs := obsBG_eq (HandSHeadRun.getT_eq s)
def names0 : List PySem.Str := ["WindError", "InvalidPoint", "InvalidSide", "InvalidFigure", "InvalidWind", "is_whole", "are_wholes", "common_divisor", "lowest", "is_lowest", "ratio", "ratio_product", "is_lower", "NOUGHT", "is_vector", "step_between", "along", "is_pointing", "ROUND", "is_border", "side_at", "side_left", "value_at", "are_held", "chain"]
def names1 : List PySem.Str := ["is_left", "hull", "is_shape", "next_corner", "sides", "has", "support", "check_point", "check_side", "is_sailed", "check_figure", "check_drift", "holds_in_wind", "winds_off", "_law_sack", "_law_draw", "_law_one", "_law_gcd", "_law_spot", "_law_said", "_law_bend", "_law_chain", "_law_rim", "_law_boat", "_law_side"]
def names2 : List PySem.Str := ["_law_wind", "_law_is_held", "_law_against", "_law_right"]
def names : List PySem.Str := names0 ++ names1 ++ names2
theorem run (w : World) : HandSHeadRun.RunEqI R (PySem.W.view R.prog [0, 63]) hk ob 6000 names w := by
  unfold HandSHeadRun.RunEqI
  kernel_rfl
end Wf
open PySem PySem.W PySem.Calls PyProof.Rows
theorem Wf.head_of (F : ∀ (w : World) (mg : PySem.Str → Option Value) (fa : Addr) (h : Heap) (K : PySem.W.Frag), K.In h → h.Ns mainGlobals mg → mg ("law" : PySem.Str) = some (.ref fa) → Wf.SaysB K →
      ∃ (fd : FuncData) (sp : L2.Sp), (∀ (s : Shared) (u : Value), BindsTo s fd ⟨[u], []⟩ [("_law_script", u)]) ∧
        (∀ (H : L2.Hp) (a : Addr) (ns : List Int), ns.length ≤ 63 → L2.SqL K H a (ns.map L2.V.int) → sp [.ref a] H (fun v _ => v = .bl true) fun _ _ _ => False) ∧
        ∀ base : Heap, K.In base → base.Ns mainGlobals mg → L2.FnOk (PySem.Challenge.rw_windfigure_k59_whole_shores_in_all_winds).prog w K mg base L2.CX0 20 fa fd ["_law_script"] sp) :
    PySem.Challenge.rw_windfigure_k59_whole_shores_in_all_winds.Holds := by
  w_on; o_law
  refine HandSHeadRun.head_imp (r := OpenLaw.row PySem.Challenge.rw_windfigure_k59_whole_shores_in_all_winds) (q := view (OpenLaw.row PySem.Challenge.rw_windfigure_k59_whole_shores_in_all_winds).prog [0, 63]) (H := Wf.hk) (ob := Wf.ob) (M := 6000) (loose := Wf.names) (d := HandSHeadRun.topDef (OpenLaw.row PySem.Challenge.rw_windfigure_k59_whole_shores_in_all_winds).prog 63) (kwd := []) Wf.ob_eq
    Wf.run (by kernel_rfl) (by kernel_rfl) (by kernel_rfl) (by rfl) (by first | assumption | decide +kernel) (by decide +kernel) ⟨rfl, rfl, rfl, rfl, rfl, by decide +kernel⟩ ?hw ?hc
  case hw => w_witness2
  case hc =>
    refine L2.walk_ofE (l := PySem.Challenge.rw_windfigure_k59_whole_shores_in_all_winds) (n := 63) (k := 20) (x := "_law_script") (CX := L2.CX0) rfl (by decide) (by kernel_rfl) ⟨rfl, by decide, by decide⟩ ?F (fun _ _ _ _ z => z)
    intro w mg fa h Y G hmg0
    obtain ⟨K, KX, c⟩ := Y
    have hmg : mg ("law" : PySem.Str) = some (.ref fa) := by
      have e : (HandSHeadRun.topDef (OpenLaw.row PySem.Challenge.rw_windfigure_k59_whole_shores_in_all_winds).prog 63).name = ("law" : PySem.Str) := by kernel_rfl
      rw [← e]
      exact hmg0
    obtain ⟨fd, sp, hb, hsp, hF⟩ := F w mg fa h K KX G hmg c
    exact ⟨K, fd, sp, KX, hb, fun H a ns hl _ hS => hsp H a ns hl hS, hF⟩
set_option Elab.async false
set_option linter.all false
set_option maxRecDepth 100000
set_option maxHeartbeats 1000000
/-! data over heaps: an expression gives a datum, a statement returns one -/
namespace Wf
open PySem PySem.Spec PyProof.Rows L2

/-! ### heaps -/
theorem same_seqT {K : PySem.W.Frag} {H H' : Hp} {a : Addr} {xs : List V} (e : Same H H') (h : SqT K H a xs) : SqT K H' a xs := by
  rcases h with (h | ⟨o, h⟩) | h
  · exact .inl (.inl (e _ _ h))
  · exact .inl (.inr ⟨o, e _ _ h⟩)
  · exact .inr h
theorem same_new {H : Hp} {p : Addr} {o : HO} (h : H p = none) : Same H (upd H p o) := fun a u e => by
  rw [upd_ne (ne_of_none e h)]
  exact e
/-- G the facts, H the heap; then G', H'. x: an object that may have changed -/
structure Nw (x : Option Addr) (G H G' H' : Hp) : Prop where
  g : Same G G'
  s : Same G' H'
  k : ∀ b o, H b = some o → (∃ o', H' b = some o') ∧ (some b ≠ x → H' b = some o)
  f : ∀ l, H l ≠ none → G l = none → G' l = none
section
variable {x : Option Addr} {G H G' H' G2 H2 : Hp}
theorem Nw.refl (h : Same G H) : Nw x G H G H := ⟨Same.refl G, h, fun b o e => ⟨⟨o, e⟩, fun _ => e⟩, fun _ _ e => e⟩
theorem Nw.there (n : Nw x G H G' H') {l : Addr} (h : H l ≠ none) : H' l ≠ none := by
  cases e : H l with
  | none => exact absurd e h
  | some o =>
    obtain ⟨⟨o', e'⟩, _⟩ := n.k l o e
    rw [e']
    exact fun z => nomatch z
theorem Nw.trans (a : Nw x G H G' H') (b : Nw x G' H' G2 H2) : Nw x G H G2 H2 :=
  ⟨a.g.trans b.g, b.s, fun c o e => by
    obtain ⟨⟨o1, e1⟩, k1⟩ := a.k c o e
    refine ⟨(b.k c o1 e1).1, fun hn => (b.k c o (k1 hn)).2 hn⟩, fun l h e => b.f l (a.there h) (a.f l h e)⟩
theorem Nw.up (a : Nw none G H G' H') : Nw x G H G' H' := ⟨a.g, a.s, fun b o e => ⟨(a.k b o e).1, fun _ => (a.k b o e).2 (fun z => nomatch z)⟩, a.f⟩
theorem Nw.keep (a : Nw none G H G' H') : Same H H' := fun b o e => (a.k b o e).2 (fun z => nomatch z)
theorem Nw.of {x : Option Addr} {G H H' : Hp} (hs : Same G H) (h : Same H H') : Nw x G H G H' := ⟨Same.refl G, hs.trans h, fun b o e => ⟨⟨o, h b o e⟩, fun _ => h b o e⟩, fun _ _ e => e⟩
theorem Nw.new {p : Addr} {o : HO} (hs : Same G H) (hp : H p = none) : Nw x G H (upd G p o) (upd H p o) := by
  have gp : G p = none := hs.free hp
  refine ⟨same_new gp, fun b u e => ?_, fun b u e => ?_, fun l h e => ?_⟩
  · by_cases hb : b = p
    · subst hb
      rw [upd_same] at e ⊢
      exact e
    · rw [upd_ne hb] at e ⊢
      exact hs b u e
  · have hb : b ≠ p := ne_of_none e hp
    exact ⟨⟨u, by rw [upd_ne hb]; exact e⟩, fun _ => by rw [upd_ne hb]; exact e⟩
  · have hl : l ≠ p := fun z => h (by rw [z]; exact hp)
    rw [upd_ne hl]
    exact e
end

/-! ### data -/
mutual
theorem dp_mono {K : PySem.W.Frag} {H H' : Hp} (e : Same H H') : ∀ (d : PyData) (v : V), Dp K H v d → Dp K H' v d
  | .none, v, h => by cases h; exact .non
  | .bool b, v, h => by cases h; exact .bl b
  | .int i, v, h => by cases h; exact .int i
  | .str x, v, h => by cases h; exact .str x
  | .list ds, v, h => by
    cases h with
    | lst hs ha => exact .lst (e.seq hs) (dps_mono e ds _ ha)
  | .tuple ds, v, h => by
    cases h with
    | tup hs ha => exact .tup (same_seqT e hs) (dps_mono e ds _ ha)
  | .dict kvs, v, h => by cases h
theorem dps_mono {K : PySem.W.Frag} {H H' : Hp} (e : Same H H') : ∀ (ds : List PyData) (vs : List V), DpAll K H vs ds → DpAll K H' vs ds
  | [], vs, h => by cases h; exact .nil
  | d :: ds, vs, h => by
    cases h with
    | cons h1 h2 => exact .cons (dp_mono e d _ h1) (dps_mono e ds _ h2)
end
/-! no list within -/
mutual
def flatD : PyData → Bool
  | .list _ => false
  | .dict _ => false
  | .tuple ds => flatDs ds
  | _ => true
def flatDs : List PyData → Bool
  | [] => true
  | d :: ds => flatD d && flatDs ds
end
def er (l : Addr) (H : Hp) : Hp := fun b => if b = l then none else H b
theorem er_self {l : Addr} {H : Hp} : er l H l = none := by unfold er; rw [if_pos rfl]
theorem er_ne {l b : Addr} {H : Hp} (h : b ≠ l) : er l H b = H b := by unfold er; rw [if_neg h]
theorem er_same {l : Addr} {H : Hp} : Same (er l H) H := fun b o e => by
  by_cases h : b = l
  · subst h; rw [er_self] at e; cases e
  · rw [er_ne h] at e; exact e
mutual
theorem dp_er {K : PySem.W.Frag} {H : Hp} {l : Addr} {ys : List V} (hl : H l = some (.lst ys)) : ∀ (d : PyData) (v : V), flatD d = true → Dp K H v d → Dp K (er l H) v d
  | .none, v, _, h => by cases h; exact .non
  | .bool b, v, _, h => by cases h; exact .bl b
  | .int i, v, _, h => by cases h; exact .int i
  | .str x, v, _, h => by cases h; exact .str x
  | .list ds, v, f, h => by exact absurd f (by simp [flatD])
  | .tuple ds, v, f, h => by
    cases h with
    | @tup a xs _ hs ha =>
      have f' : flatDs ds = true := by simpa [flatD] using f
      refine .tup ?_ (dps_er hl ds _ f' ha)
      rcases hs with (hs | ⟨o, hs⟩) | hs
      · exact .inl (.inl (by rw [er_ne (by rintro rfl; rw [hl] at hs; cases hs)]; exact hs))
      · exact .inl (.inr ⟨o, by rw [er_ne (by rintro rfl; rw [hl] at hs; cases hs)]; exact hs⟩)
      · exact .inr hs
  | .dict kvs, v, _, h => by cases h
theorem dps_er {K : PySem.W.Frag} {H : Hp} {l : Addr} {ys : List V} (hl : H l = some (.lst ys)) : ∀ (ds : List PyData) (vs : List V), flatDs ds = true → DpAll K H vs ds → DpAll K (er l H) vs ds
  | [], vs, _, h => by cases h; exact .nil
  | d :: ds, vs, f, h => by
    cases h with
    | cons h1 h2 =>
      have f' : flatD d = true ∧ flatDs ds = true := by simpa [flatDs] using f
      exact .cons (dp_er hl d _ f'.1 h1) (dps_er hl ds _ f'.2 h2)
end
section
variable {K : PySem.W.Frag} {H H' : Hp} {v : V} {vs : List V} {d : PyData} {ds : List PyData}
theorem dpm (h : Dp K H v d) (e : Same H H') : Dp K H' v d := dp_mono e d v h
theorem dpsm (h : DpAll K H vs ds) (e : Same H H') : DpAll K H' vs ds := dps_mono e ds vs h
theorem dps_len : ∀ {vs : List V} {ds : List PyData}, DpAll K H vs ds → vs.length = ds.length
  | _, _, .nil => rfl
  | _, _, .cons _ t => by rw [List.length_cons, List.length_cons, dps_len t]
theorem dps_get : ∀ {vs : List V} {ds : List PyData} {i : Nat} {d : PyData}, DpAll K H vs ds → ds[i]? = some d → ∃ v, vs[i]? = some v ∧ Dp K H v d
  | _, _, i, d, .nil, e => by simp at e
  | _, _, 0, d, .cons h _, e => by simp at e; subst e; exact ⟨_, rfl, h⟩
  | _, _, i + 1, d, .cons _ t, e => by
    obtain ⟨v, h1, h2⟩ := dps_get (i := i) t (by simpa using e)
    exact ⟨v, by simpa using h1, h2⟩
theorem dps_app : ∀ {vs ws : List V} {ds es : List PyData}, DpAll K H vs ds → DpAll K H ws es → DpAll K H (vs ++ ws) (ds ++ es)
  | _, _, _, _, .nil, s => s
  | _, _, _, _, .cons h t, s => .cons h (dps_app t s)
theorem dps_take (n : Nat) : ∀ {vs : List V} {ds : List PyData}, DpAll K H vs ds → DpAll K H (vs.take n) (ds.take n) := by
  induction n with
  | zero => intro vs ds _; exact .nil
  | succ n ih =>
    intro vs ds h
    cases h with
    | nil => exact .nil
    | cons h t => exact .cons h (ih t)
theorem dps_drop (n : Nat) : ∀ {vs : List V} {ds : List PyData}, DpAll K H vs ds → DpAll K H (vs.drop n) (ds.drop n) := by
  induction n with
  | zero => intro vs ds h; exact h
  | succ n ih =>
    intro vs ds h
    cases h with
    | nil => exact .nil
    | cons h t => exact ih t
theorem dps_rev {vs : List V} {ds : List PyData} (h : DpAll K H vs ds) : DpAll K H vs.reverse ds.reverse := by
  induction vs generalizing ds with
  | nil => cases h; exact .nil
  | cons v vs ih =>
    cases h with
    | cons h t =>
      rw [List.reverse_cons, List.reverse_cons]
      exact dps_app (ih t) (.cons h .nil)
theorem dp_int (h : Dp K H v (.int i)) : v = .int i := by cases h; rfl
theorem dp_bl (h : Dp K H v (.bool b)) : v = .bl b := by cases h; rfl
theorem dp_str (h : Dp K H v (.str x)) : v = .str x := by cases h; rfl
theorem dp_tup (h : Dp K H v (.tuple ds)) : ∃ a xs, v = .ref a ∧ SqT K H a xs ∧ DpAll K H xs ds := by
  cases h with
  | tup h1 h2 => exact ⟨_, _, rfl, h1, h2⟩
theorem dp_lst (h : Dp K H v (.list ds)) : ∃ a xs, v = .ref a ∧ SqL K H a xs ∧ DpAll K H xs ds := by
  cases h with
  | lst h1 h2 => exact ⟨_, _, rfl, h1, h2⟩
theorem dps_ints : ∀ {vs : List V} {ns : List Int}, DpAll K H vs (ns.map PyData.int) → vs = ns.map V.int
  | _, [], h => by cases h; rfl
  | _, n :: ns, h => by
    cases h with
    | cons h t => rw [dp_int h, dps_ints t, List.map_cons]
theorem ints_dps : ∀ (ns : List Int), DpAll K H (ns.map V.int) (ns.map PyData.int)
  | [] => .nil
  | n :: ns => .cons (.int n) (ints_dps ns)
theorem dps_bls : ∀ {vs : List V} {ns : List Bool}, DpAll K H vs (ns.map PyData.bool) → vs = ns.map V.bl
  | _, [], h => by cases h; rfl
  | _, n :: ns, h => by
    cases h with
    | cons h t => rw [dp_bl h, dps_bls t, List.map_cons]
end

/-! ### environments -/
def En (K : PySem.W.Frag) (G : Hp) (σ : L2.St) (es : List (Option PyData)) : Prop := σ.length = es.length ∧ ∀ (i : Nat) (d : PyData), es[i]? = some (some d) → ∃ v, σ[i]? = some (some v) ∧ Dp K G v d
def EnLe (es es' : List (Option PyData)) : Prop := es.length = es'.length ∧ ∀ (i : Nat) (d : PyData), es'[i]? = some (some d) → es[i]? = some (some d)
def wipeE (es : List (Option PyData)) : List Nat → List (Option PyData)
  | [] => es
  | v :: vs => (wipeE es vs).set v none
section
variable {K : PySem.W.Frag} {G G' H H' : Hp} {σ : L2.St} {es es' : List (Option PyData)} {v : V} {d : PyData}
theorem En.mono (h : En K G σ es) (e : Same G G') : En K G' σ es := ⟨h.1, fun i d q => by
  obtain ⟨v, h1, h2⟩ := h.2 i d q
  exact ⟨v, h1, dpm h2 e⟩⟩
theorem En.le (h : En K G σ es) (e : EnLe es es') : En K G σ es' := ⟨h.1.trans e.1, fun i d q => h.2 i d (e.2 i d q)⟩
theorem En.set (h : En K G σ es) (i : Nat) (hv : Dp K G v d) : En K G (σ.set i (some v)) (es.set i (some d)) := by
  refine ⟨by rw [List.length_set, List.length_set]; exact h.1, fun j e q => ?_⟩
  by_cases hj : i = j
  · subst hj
    by_cases hl : i < es.length
    · rw [List.getElem?_set_self hl] at q
      cases q
      exact ⟨v, by rw [List.getElem?_set_self (by rw [h.1]; exact hl)], hv⟩
    · rw [List.getElem?_eq_none (by rw [List.length_set]; omega)] at q
      cases q
  · rw [List.getElem?_set_ne hj] at q
    obtain ⟨w, h1, h2⟩ := h.2 j e q
    exact ⟨w, by rw [List.getElem?_set_ne hj]; exact h1, h2⟩
theorem En.setNone (h : En K G σ es) (i : Nat) (x : Option V) : En K G (σ.set i x) (es.set i none) := by
  refine ⟨by rw [List.length_set, List.length_set]; exact h.1, fun j e q => ?_⟩
  by_cases hj : i = j
  · subst hj
    by_cases hl : i < es.length
    · rw [List.getElem?_set_self hl] at q
      cases q
    · rw [List.getElem?_eq_none (by rw [List.length_set]; omega)] at q
      cases q
  · rw [List.getElem?_set_ne hj] at q
    obtain ⟨w, h1, h2⟩ := h.2 j e q
    exact ⟨w, by rw [List.getElem?_set_ne hj]; exact h1, h2⟩
theorem En.wipe (h : En K G σ es) : ∀ vs : List Nat, En K G (wipe σ vs) (wipeE es vs)
  | [] => h
  | v :: vs => (En.wipe h vs).setNone v none
theorem wipe_get (σ : L2.St) : ∀ (vs : List Nat) (i : Nat), (wipe σ vs)[i]? = if i ∈ vs then (if i < σ.length then some none else none) else σ[i]?
  | [], i => by simp [L2.wipe]
  | v :: vs, i => by
    unfold L2.wipe
    have ih := wipe_get σ vs i
    by_cases h : v = i
    · subst h
      by_cases hl : v < σ.length
      · rw [List.getElem?_set_self (by rw [wipe_length]; exact hl)]
        simp [hl]
      · rw [List.getElem?_eq_none (by rw [List.length_set, wipe_length]; omega)]
        simp [hl]
    · rw [List.getElem?_set_ne h, ih]
      have : (i ∈ v :: vs) ↔ i ∈ vs := by simp [Ne.symm h, eq_comm, h]
      simp only [this]
theorem wipe_set {σ : L2.St} {vs : List Nat} {j : Nat} {x : Option V} (hj : j ∈ vs) : wipe (σ.set j x) vs = wipe σ vs := by
  apply List.ext_getElem?
  intro i
  rw [wipe_get, wipe_get, List.length_set]
  by_cases h : i ∈ vs
  · rw [if_pos h, if_pos h]
  · rw [if_neg h, if_neg h, List.getElem?_set_ne (by rintro rfl; exact h hj)]
theorem wipe_wipe {σ : L2.St} {vs : List Nat} : wipe (wipe σ vs) vs = wipe σ vs := by
  apply List.ext_getElem?
  intro i
  rw [wipe_get, wipe_get, wipe_length]
  by_cases h : i ∈ vs
  · rw [if_pos h, if_pos h]
  · rw [if_neg h, if_neg h]
def sEnv (N : List Str) (ds : List PyData) : List (Option PyData) := ds.map some ++ List.replicate (N.length - ds.length) none
theorem dps_env {N : List Str} {vs : List V} {ds : List PyData} (h : DpAll K G vs ds) : En K G (L2.start N vs) (sEnv N ds) := by
  have hl := dps_len h
  refine ⟨by unfold L2.start sEnv; simp [hl], fun i d q => ?_⟩
  unfold sEnv at q
  by_cases hi : i < ds.length
  · rw [List.getElem?_append_left (by rw [List.length_map]; exact hi), List.getElem?_map] at q
    cases e : ds[i]? with
    | none => rw [e] at q; cases q
    | some d' =>
      rw [e] at q
      have q' : d' = d := Option.some.inj (Option.some.inj q)
      subst q'
      obtain ⟨v, h1, h2⟩ := dps_get h e
      refine ⟨v, ?_, h2⟩
      unfold L2.start
      rw [List.getElem?_append_left (by rw [List.length_map, hl]; exact hi), List.getElem?_map, h1]
      rfl
  · rw [List.getElem?_append_right (by rw [List.length_map]; omega)] at q
    rw [List.getElem?_replicate] at q
    split at q <;> cases q
end

/-! ### judgements -/
section
variable (K : PySem.W.Frag)
def Ed (te : TE) (es : List (Option PyData)) (d : PyData) : Prop := ∀ σ G H, En K G σ es → Same G H → ∀ Q : VK, (∀ v G' H', Nw none G H G' H' → Dp K G' v d → Q v H') → te σ H Q
def Et (tt : TT) (es : List (Option PyData)) (b : Bool) : Prop := ∀ σ G H, En K G σ es → Same G H → ∀ Q : Bool → Hp → Prop, (∀ H', Same H H' → Q b H') → tt σ H Q
def Ea (ta : TA) (es : List (Option PyData)) (ds : List PyData) : Prop := ∀ σ G H, En K G σ es → Same G H → ∀ Q : List V → Hp → Prop, (∀ vs G' H', Nw none G H G' H' → DpAll K G' vs ds → Q vs H') → ta σ H Q
def Op (r : R2) (d1 d2 d3 : PyData) : Prop := ∀ G H x y, Dp K G x d1 → Dp K G y d2 → Same G H → ∀ Q : VK, (∀ v G' H', Nw none G H G' H' → Dp K G' v d3 → Q v H') → r x y H Q
def Bc (r : List V → Hp → VK → Prop) (ds : List PyData) (d : PyData) : Prop := ∀ G H vs, DpAll K G vs ds → Same G H → ∀ Q : VK, (∀ v G' H', Nw none G H G' H' → Dp K G' v d → Q v H') → r vs H Q
/-- a target: binds the datum d, then es' -/
def Gd (g : TG) (vs : List Nat) (es : List (Option PyData)) (d : PyData) (es' : List (Option PyData)) : Prop := ∀ σ G H v, En K G σ es → Dp K G v d → Same G H → ∀ Q : L2.St → Hp → Prop, (∀ σ', En K G σ' es' → wipe σ' vs = wipe σ vs → Q σ' H) → g v σ H Q
/-- .. of a for, of an assignment -/
def Gn (g : TG) (es : List (Option PyData)) (d : PyData) (es' : List (Option PyData)) : Prop := ∀ σ G H v, En K G σ es → Dp K G v d → Same G H → ∀ Q : L2.St → Hp → Prop, (∀ σ', En K G σ' es' → Q σ' H) → g v σ H Q
/-- returns d -/
def St (t : TS) (es : List (Option PyData)) (d : PyData) : Prop := ∀ σ G H (D : Ends), En K G σ es → Same G H → (∀ v G' H', Nw none G H G' H' → Dp K G' v d → D.rt v H') → t D σ H
/-- runs through -/
def Sn (t : TS) (es es' : List (Option PyData)) : Prop := ∀ σ G H (D : Ends), En K G σ es → Same G H → (∀ σ' G' H', Nw none G H G' H' → En K G' σ' es' → D.nx σ' H') → t D σ H
/-- the promise of a pure def -/
def spD (R : List PyData → PyData → Prop) : Sp := fun vs H Q _ => ∃ G ds d, Same G H ∧ DpAll K G vs ds ∧ R ds d ∧ ∀ v G' H', Nw none G H G' H' → Dp K G' v d → Q v H'
end
section
variable {K : PySem.W.Frag} {es es' es1 es2 : List (Option PyData)} {ta tb te tc : TE} {tt tu : TT} {d d1 d2 d3 : PyData} {ds : List PyData} {i j : Nat} {a b : Int} {p q : Bool}
theorem ed_var (h : es[i]? = some (some d) := by rfl) : Ed K (tVar i) es d := fun σ G H hE hS Q k => by
  obtain ⟨v, h1, h2⟩ := hE.2 i d h
  exact ⟨v, h1, k v G H (Nw.refl hS) h2⟩
theorem ed_c {v : V} (h : ∀ G, Dp K G v d) : Ed K (tC v) es d := fun σ G H hE hS Q k => k v G H (Nw.refl hS) (h G)
theorem ed_int : Ed K (tC (.int a)) es (.int a) := ed_c fun _ => .int a
theorem ed_bl : Ed K (tC (.bl p)) es (.bool p) := ed_c fun _ => .bl p
theorem ed_str {x : Str} : Ed K (tC (.str x)) es (.str x) := ed_c fun _ => .str x
theorem ed_non : Ed K (tC .non) es .none := ed_c fun _ => .non
theorem Ed.is (h : Ed K te es d) (e : d = d1) : Ed K te es d1 := e ▸ h
theorem Et.is (h : Et K tt es p) (e : p = q) : Et K tt es q := e ▸ h
theorem ed_op {r : R2} (ha : Ed K ta es d1) (hb : Ed K tb es d2) (hr : Op K r d1 d2 d3) : Ed K (tOp r ta tb) es d3 := fun σ G H hE hS Q k =>
  ha σ G H hE hS _ fun x G1 H1 n1 dx => hb σ G1 H1 (hE.mono n1.g) n1.s _ fun y G2 H2 n2 dy => hr G2 H2 x y (dpm dx n2.g) dy n2.s Q fun v G3 H3 n3 dv => k v G3 H3 ((n1.trans n2).trans n3) dv
theorem op_i0 {g : Int → Int → V} (h : ∀ G, Dp K G (g a b) d) : Op K (rI0 g) (.int a) (.int b) d := fun G H x y hx hy hS Q k => by
  cases dp_int hx
  cases dp_int hy
  exact ⟨a, b, rfl, rfl, k _ G H (Nw.refl hS) (h G)⟩
theorem op_i {C : Int → Int → Prop} {g : Int → Int → V} (hc : C a b) (h : ∀ G, Dp K G (g a b) d) : Op K (rI C g) (.int a) (.int b) d := fun G H x y hx hy hS Q k => by
  cases dp_int hx
  cases dp_int hy
  exact ⟨a, b, rfl, rfl, hc, k _ G H (Nw.refl hS) (h G)⟩
theorem ed_add (ha : Ed K ta es (.int a)) (hb : Ed K tb es (.int b)) : Ed K (tOp (rI0 fun i j => .int (i + j)) ta tb) es (.int (a + b)) := ed_op ha hb (op_i0 fun _ => .int _)
theorem ed_sub (ha : Ed K ta es (.int a)) (hb : Ed K tb es (.int b)) : Ed K (tOp (rI0 fun i j => .int (i - j)) ta tb) es (.int (a - b)) := ed_op ha hb (op_i0 fun _ => .int _)
theorem ed_mul (ha : Ed K ta es (.int a)) (hb : Ed K tb es (.int b)) (hc : CMul a b) : Ed K (tOp (rI CMul fun i j => .int (i * j)) ta tb) es (.int (a * b)) := ed_op ha hb (op_i hc fun _ => .int _)
theorem ed_fdiv (ha : Ed K ta es (.int a)) (hb : Ed K tb es (.int b)) (hc : CDiv a b) : Ed K (tOp (rI CDiv fun i j => .int (i / j)) ta tb) es (.int (a / b)) := ed_op ha hb (op_i hc fun _ => .int _)
theorem ed_mod (ha : Ed K ta es (.int a)) (hb : Ed K tb es (.int b)) (hc : 0 < b) : Ed K (tOp (rI (fun _ j => 0 < j) fun i j => .int (i % j)) ta tb) es (.int (a % b)) := ed_op ha hb (op_i hc fun _ => .int _)
theorem ed_lt (ha : Ed K ta es (.int a)) (hb : Ed K tb es (.int b)) : Ed K (tOp (rI0 fun i j => .bl (decide (i < j))) ta tb) es (.bool (decide (a < b))) := ed_op ha hb (op_i0 fun _ => .bl _)
theorem ed_le (ha : Ed K ta es (.int a)) (hb : Ed K tb es (.int b)) : Ed K (tOp (rI0 fun i j => .bl (decide (i ≤ j))) ta tb) es (.bool (decide (a ≤ b))) := ed_op ha hb (op_i0 fun _ => .bl _)
theorem ed_gt (ha : Ed K ta es (.int a)) (hb : Ed K tb es (.int b)) : Ed K (tOp (rI0 fun i j => .bl (decide (j < i))) ta tb) es (.bool (decide (b < a))) := ed_op ha hb (op_i0 fun _ => .bl _)
theorem ed_ge (ha : Ed K ta es (.int a)) (hb : Ed K tb es (.int b)) : Ed K (tOp (rI0 fun i j => .bl (decide (j ≤ i))) ta tb) es (.bool (decide (b ≤ a))) := ed_op ha hb (op_i0 fun _ => .bl _)
theorem ed_eqI (ha : Ed K ta es (.int a)) (hb : Ed K tb es (.int b)) : Ed K (tOp rEq ta tb) es (.bool (decide (a = b))) := ed_op ha hb fun G H x y hx hy hS Q k => by
  cases dp_int hx
  cases dp_int hy
  have e : decide (V.int a = V.int b) = decide (a = b) := by
    by_cases h : a = b
    · simp [h]
    · simp [h]
  refine ⟨rfl, ?_⟩
  rw [e]
  exact k _ G H (Nw.refl hS) (.bl _)
theorem ed_neI (ha : Ed K ta es (.int a)) (hb : Ed K tb es (.int b)) : Ed K (tOp rNe ta tb) es (.bool (!decide (a = b))) := ed_op ha hb fun G H x y hx hy hS Q k => by
  cases dp_int hx
  cases dp_int hy
  have e : decide (V.int a = V.int b) = decide (a = b) := by
    by_cases h : a = b
    · simp [h]
    · simp [h]
  refine ⟨rfl, ?_⟩
  rw [e]
  exact k _ G H (Nw.refl hS) (.bl _)
theorem ed_eqS {x y : Str} (ha : Ed K ta es (.str x)) (hb : Ed K tb es (.str y)) : Ed K (tOp rEq ta tb) es (.bool (decide (x = y))) := ed_op ha hb fun G H x' y' hx hy hS Q k => by
  cases dp_str hx
  cases dp_str hy
  have e : decide (V.str x = V.str y) = decide (x = y) := by
    by_cases h : x = y
    · simp [h]
    · simp [h]
  refine ⟨rfl, ?_⟩
  rw [e]
  exact k _ G H (Nw.refl hS) (.bl _)
theorem ed_neS {x y : Str} (ha : Ed K ta es (.str x)) (hb : Ed K tb es (.str y)) : Ed K (tOp rNe ta tb) es (.bool (!decide (x = y))) := ed_op ha hb fun G H x' y' hx hy hS Q k => by
  cases dp_str hx
  cases dp_str hy
  have e : decide (V.str x = V.str y) = decide (x = y) := by
    by_cases h : x = y
    · simp [h]
    · simp [h]
  refine ⟨rfl, ?_⟩
  rw [e]
  exact k _ G H (Nw.refl hS) (.bl _)
theorem ed_eqD (ha : Ed K ta es d1) (hb : Ed K tb es d2) (s1 : SeqAt.shaped d1 = true) (s2 : SeqAt.shaped d2 = true) : Ed K (tOp (rEqD K) ta tb) es (.bool (PyData.eqv d1 d2)) := ed_op ha hb fun G H x y hx hy hS Q k =>
  ⟨d1, d2, dpm hx hS, dpm hy hS, s1, s2, k _ G H (Nw.refl hS) (.bl _)⟩
theorem ed_neg (ha : Ed K ta es (.int a)) : Ed K (tUn (rU fun i => .int (-i)) ta) es (.int (-a)) := by
  exact fun σ G H hE hS Q k => ha σ G H hE hS _ fun x G1 H1 n1 dx => by
    cases dp_int dx
    exact ⟨a, rfl, k _ G1 H1 n1 (.int _)⟩
theorem at_dps {G : Hp} {xs : List V} {z : Int} (ha : DpAll K G xs ds) (h : atI ds z = some d) : ∃ v, atI xs z = some v ∧ Dp K G v d := by
  unfold atI at h ⊢
  rw [dps_len ha]
  cases e : ixN ds.length z with
  | none => rw [e] at h; cases h
  | some j =>
    rw [e] at h
    exact dps_get ha h
theorem ed_ixT (ha : Ed K ta es (.tuple ds)) (hb : Ed K tb es (.int a)) (h : atI ds a = some d) : Ed K (tOp (rIxT K) ta tb) es d := ed_op ha hb fun G H x y hx hy hS Q k => by
  cases dp_int hy
  obtain ⟨p, xs, rfl, hs, hd⟩ := dp_tup hx
  obtain ⟨v, hv, dv⟩ := at_dps hd h
  exact ⟨p, xs, a, v, rfl, rfl, same_seqT hS hs, hv, k v G H (Nw.refl hS) dv⟩
theorem ed_ixL (ha : Ed K ta es (.list ds)) (hb : Ed K tb es (.int a)) (h : atI ds a = some d) : Ed K (tOp (rIxL K) ta tb) es d := ed_op ha hb fun G H x y hx hy hS Q k => by
  cases dp_int hy
  obtain ⟨p, xs, rfl, hs, hd⟩ := dp_lst hx
  obtain ⟨v, hv, dv⟩ := at_dps hd h
  exact ⟨p, xs, a, v, rfl, rfl, hS.seq hs, hv, k v G H (Nw.refl hS) dv⟩
/-! tests -/
theorem et_test (h : Ed K te es (.bool p)) : Et K (tTest te) es p := fun σ G H hE hS Q k => h σ G H hE hS _ fun v G1 H1 n1 dv => by
  cases dp_bl dv
  exact ⟨p, rfl, k H1 n1.keep⟩
theorem et_B (h : Ed K te es (.bool p)) : Et K (tB te) es p := fun σ G H hE hS Q k => h σ G H hE hS _ fun v G1 H1 n1 dv => by
  cases dp_bl dv
  exact ⟨p, rfl, k H1 n1.keep⟩
theorem et_and (h1 : Et K tt es p) (h2 : p = true → Et K tu es q) : Et K (tAnd tt tu) es (p && q) := fun σ G H hE hS Q k => h1 σ G H hE hS _ fun H1 e1 => by
  cases p with
  | true =>
    show tu σ H1 Q
    exact h2 rfl σ G H1 hE (hS.trans e1) Q fun H2 e2 => k H2 (e1.trans e2)
  | false => exact k H1 e1
theorem et_or (h1 : Et K tt es p) (h2 : p = false → Et K tu es q) : Et K (tOr tt tu) es (p || q) := fun σ G H hE hS Q k => h1 σ G H hE hS _ fun H1 e1 => by
  cases p with
  | true => exact k H1 e1
  | false =>
    show tu σ H1 Q
    exact h2 rfl σ G H1 hE (hS.trans e1) Q fun H2 e2 => k H2 (e1.trans e2)
theorem et_not (h1 : Et K tt es p) : Et K (tNot tt) es (!p) := fun σ G H hE hS Q k => h1 σ G H hE hS _ fun H1 e1 => k H1 e1
theorem et_yes : Et K tYes es true := fun σ G H hE hS Q k => k H (Same.refl H)
theorem ed_andV (h1 : Ed K ta es (.bool p)) (h2 : p = true → Ed K tb es (.bool q)) : Ed K (tAndV ta tb) es (.bool (p && q)) := fun σ G H hE hS Q k => h1 σ G H hE hS _ fun v G1 H1 n1 dv => by
  cases dp_bl dv
  refine ⟨p, rfl, ?_⟩
  cases p with
  | true =>
    show tb σ H1 Q
    exact h2 rfl σ G1 H1 (hE.mono n1.g) n1.s Q fun w G2 H2 n2 dw => k w G2 H2 (n1.trans n2) dw
  | false => exact k _ G1 H1 n1 (.bl _)
theorem ed_orV (h1 : Ed K ta es (.bool p)) (h2 : p = false → Ed K tb es (.bool q)) : Ed K (tOrV ta tb) es (.bool (p || q)) := fun σ G H hE hS Q k => h1 σ G H hE hS _ fun v G1 H1 n1 dv => by
  cases dp_bl dv
  refine ⟨p, rfl, ?_⟩
  cases p with
  | false =>
    show tb σ H1 Q
    exact h2 rfl σ G1 H1 (hE.mono n1.g) n1.s Q fun w G2 H2 n2 dw => k w G2 H2 (n1.trans n2) dw
  | true => exact k _ G1 H1 n1 (.bl _)
theorem ed_notV (h1 : Ed K ta es (.bool p)) : Ed K (tNotV ta) es (.bool (!p)) := fun σ G H hE hS Q k => h1 σ G H hE hS _ fun v G1 H1 n1 dv => by
  cases dp_bl dv
  exact ⟨p, rfl, k _ G1 H1 n1 (.bl _)⟩
theorem ed_if (h : Et K tt es p) (h1 : p = true → Ed K ta es d) (h2 : p = false → Ed K tb es d) : Ed K (tIf tt ta tb) es d := fun σ G H hE hS Q k => h σ G H hE hS _ fun H1 e1 => by
  have n0 : Nw none G H G H1 := Nw.of hS e1
  cases p with
  | true =>
    show ta σ H1 Q
    exact h1 rfl σ G H1 hE (hS.trans e1) Q fun v G2 H2 n2 dv => k v G2 H2 (n0.trans n2) dv
  | false =>
    show tb σ H1 Q
    exact h2 rfl σ G H1 hE (hS.trans e1) Q fun v G2 H2 n2 dv => k v G2 H2 (n0.trans n2) dv
/-! arguments, displays, calls -/
theorem ea_nil : Ea K tNil es [] := fun σ G H hE hS Q k => k [] G H (Nw.refl hS) .nil
theorem ea_cons {tr : TA} (h : Ed K te es d) (hr : Ea K tr es ds) : Ea K (tCons te tr) es (d :: ds) := fun σ G H hE hS Q k =>
  h σ G H hE hS _ fun x G1 H1 n1 dx => hr σ G1 H1 (hE.mono n1.g) n1.s _ fun vs G2 H2 n2 dv => k (x :: vs) G2 H2 (n1.trans n2) (.cons (dpm dx n2.g) dv)
theorem sz_of {n : Nat} (h : n ≤ 100000) : n ≤ sizeLine := Nat.le_trans h (by decide)
theorem ed_tup {ta : TA} (h : Ea K ta es ds) (hl : ds.length ≤ 100000) : Ed K (tTup ta) es (.tuple ds) := fun σ G H hE hS Q k =>
  h σ G H hE hS _ fun vs G1 H1 n1 dv => ⟨by rw [dps_len dv]; exact sz_of hl, fun p hp => k (.ref p) (upd G1 p (.tup vs)) (upd H1 p (.tup vs)) (n1.trans (Nw.new n1.s hp)) (.tup (SqT.of upd_same) (dpsm dv (same_new (n1.s.free hp))))⟩
theorem ed_lst {ta : TA} (h : Ea K ta es ds) (hl : ds.length ≤ 100000) : Ed K (tLst ta) es (.list ds) := fun σ G H hE hS Q k =>
  h σ G H hE hS _ fun vs G1 H1 n1 dv => ⟨by rw [dps_len dv]; exact sz_of hl, fun p hp => k (.ref p) (upd G1 p (.lst vs)) (upd H1 p (.lst vs)) (n1.trans (Nw.new n1.s hp)) (.lst (SqL.of upd_same) (dpsm dv (same_new (n1.s.free hp))))⟩
theorem ed_cb {ta : TA} {r : List V → Hp → VK → Prop} (h : Ea K ta es ds) (hr : Bc K r ds d) : Ed K (tCB r ta) es d := fun σ G H hE hS Q k =>
  h σ G H hE hS _ fun vs G1 H1 n1 dv => hr G1 H1 vs dv n1.s Q fun v G2 H2 n2 dw => k v G2 H2 (n1.trans n2) dw
theorem ed_call {ta : TA} {R : List PyData → PyData → Prop} {E : XK} (h : Ea K ta es ds) (hr : R ds d) : Ed K (tCall (spD K R) [] E ta) es d := fun σ G H hE hS Q k =>
  h σ G H hE hS _ fun vs G1 H1 n1 dv => by
    show spD K R (vs ++ []) H1 Q E
    rw [List.append_nil]
    exact ⟨G1, ds, d, n1.s, dv, hr, fun v G2 H2 n2 dw => k v G2 H2 (n1.trans n2) dw⟩
/-! targets -/
theorem gd_nm : Gd K (gName j) (j :: []) es d (es.set j (some d)) := fun σ G H v hE hv hS Q k => k _ (hE.set j hv) (wipe_set (by simp))
theorem gd_in {vs : List Nat} (hj : j ∈ vs) : Gd K (gName j) vs es d (es.set j (some d)) := fun σ G H v hE hv hS Q k => k _ (hE.set j hv) (wipe_set hj)
/-- several -/
def Gs (K : PySem.W.Frag) (g : TGs) (vs : List Nat) (es : List (Option PyData)) (ds : List PyData) (es' : List (Option PyData)) : Prop := ∀ σ G H ws, En K G σ es → DpAll K G ws ds → Same G H → ∀ Q : L2.St → Hp → Prop, (∀ σ', En K G σ' es' → wipe σ' vs = wipe σ vs → Q σ' H) → g ws σ H Q
theorem gs_nil {vs : List Nat} : Gs K gNil vs es [] es := fun σ G H ws hE hd hS Q k => by
  cases hd
  exact ⟨rfl, k σ hE rfl⟩
theorem gs_cons {t : TG} {u : TGs} {vs : List Nat} (h : Gd K t vs es d es1) (hu : Gs K u vs es1 ds es2) : Gs K (gCons t u) vs es (d :: ds) es2 := fun σ G H ws hE hd hS Q k => by
  cases hd with
  | cons h1 h2 =>
    exact ⟨_, _, rfl, h σ G H _ hE h1 hS _ fun σ1 hE1 w1 => hu σ1 G H _ hE1 h2 hS Q fun σ2 hE2 w2 => k σ2 hE2 (w2.trans w1)⟩
theorem gd_tup {n : Nat} {t : TGs} {vs : List Nat} (h : Gs K t vs es ds es1) (hl : ds.length = n := by rfl) : Gd K (gTup K n t) vs es (.tuple ds) es1 := fun σ G H v hE hv hS Q k => by
  obtain ⟨a, xs, rfl, hs, hd⟩ := dp_tup hv
  exact ⟨a, xs, rfl, same_seqT hS hs, by rw [dps_len hd]; exact hl, h σ G H xs hE hd hS Q k⟩
theorem gn_name : Gn K (gName j) es d (es.set j (some d)) := fun σ G H v hE hv hS Q k => k _ (hE.set j hv)
def GsN (K : PySem.W.Frag) (g : TGs) (es : List (Option PyData)) (ds : List PyData) (es' : List (Option PyData)) : Prop := ∀ σ G H ws, En K G σ es → DpAll K G ws ds → Same G H → ∀ Q : L2.St → Hp → Prop, (∀ σ', En K G σ' es' → Q σ' H) → g ws σ H Q
theorem gsn_nil : GsN K gNil es [] es := fun σ G H ws hE hd hS Q k => by
  cases hd
  exact ⟨rfl, k σ hE⟩
theorem gsn_cons {t : TG} {u : TGs} (h : Gn K t es d es1) (hu : GsN K u es1 ds es2) : GsN K (gCons t u) es (d :: ds) es2 := fun σ G H ws hE hd hS Q k => by
  cases hd with
  | cons h1 h2 => exact ⟨_, _, rfl, h σ G H _ hE h1 hS _ fun σ1 hE1 => hu σ1 G H _ hE1 h2 hS Q fun σ2 hE2 => k σ2 hE2⟩
theorem gn_tup {n : Nat} {t : TGs} (h : GsN K t es ds es1) (hl : ds.length = n := by rfl) : Gn K (gTup K n t) es (.tuple ds) es1 := fun σ G H v hE hv hS Q k => by
  obtain ⟨a, xs, rfl, hs, hd⟩ := dp_tup hv
  exact ⟨a, xs, rfl, same_seqT hS hs, by rw [dps_len hd]; exact hl, h σ G H xs hE hd hS Q k⟩
/-! statements -/
variable {t u z : TS}
theorem st_ret (h : Ed K te es d) : St K (tRet te) es d := fun σ G H D hE hS k => h σ G H hE hS _ k
theorem st_seq (h : Sn K t es es1) (hu : St K u es1 d) : St K (tSeq t u) es d := fun σ G H D hE hS k =>
  h σ G H { D with nx := u D } hE hS fun σ1 G1 H1 n1 hE1 => hu σ1 G1 H1 D hE1 n1.s fun v G2 H2 n2 dv => k v G2 H2 (n1.trans n2) dv
theorem sn_seq (h : Sn K t es es1) (hu : Sn K u es1 es2) : Sn K (tSeq t u) es es2 := fun σ G H D hE hS k =>
  h σ G H { D with nx := u D } hE hS fun σ1 G1 H1 n1 hE1 => hu σ1 G1 H1 D hE1 n1.s fun σ2 G2 H2 n2 hE2 => k σ2 G2 H2 (n1.trans n2) hE2
theorem sn_asg (h : Ed K te es d) : Sn K (tAsg te (gName i)) es (es.set i (some d)) := fun σ G H D hE hS k =>
  h σ G H hE hS _ fun v G1 H1 n1 dv => k _ G1 H1 n1 ((hE.mono n1.g).set i dv)
theorem sn_asgG {g : TG} (h : Ed K te es d) (hg : Gn K g es d es1) : Sn K (tAsg te g) es es1 := fun σ G H D hE hS k =>
  h σ G H hE hS _ fun v G1 H1 n1 dv => hg σ G1 H1 v (hE.mono n1.g) dv n1.s _ fun σ' hE' => k σ' G1 H1 n1 hE'
theorem sn_next : Sn K tNext es es := fun σ G H D hE hS k => k σ G H (Nw.refl hS) hE
theorem sn_le (h : Sn K t es es1) (e : EnLe es1 es2) : Sn K t es es2 := fun σ G H D hE hS k => h σ G H D hE hS fun σ1 G1 H1 n1 hE1 => k σ1 G1 H1 n1 (hE1.le e)
theorem sn_ge (h : Sn K t es1 es2) (e : EnLe es es1) : Sn K t es es2 := fun σ G H D hE hS k => h σ G H D (hE.le e) hS k
theorem sn_if (h : Et K tt es p) (h1 : p = true → Sn K t es es1) (h2 : p = false → Sn K u es es1) : Sn K (tIfS tt t u) es es1 := fun σ G H D hE hS k => h σ G H hE hS _ fun H1 e1 => by
  have n0 : Nw none G H G H1 := Nw.of hS e1
  cases p with
  | true =>
    show t D σ H1
    exact h1 rfl σ G H1 D hE (hS.trans e1) fun σ2 G2 H2 n2 hE2 => k σ2 G2 H2 (n0.trans n2) hE2
  | false =>
    show u D σ H1
    exact h2 rfl σ G H1 D hE (hS.trans e1) fun σ2 G2 H2 n2 hE2 => k σ2 G2 H2 (n0.trans n2) hE2
theorem st_if (h : Et K tt es p) (h1 : p = true → St K t es d) (h2 : p = false → St K u es d) : St K (tIfS tt t u) es d := fun σ G H D hE hS k => h σ G H hE hS _ fun H1 e1 => by
  have n0 : Nw none G H G H1 := Nw.of hS e1
  cases p with
  | true =>
    show t D σ H1
    exact h1 rfl σ G H1 D hE (hS.trans e1) fun v G2 H2 n2 dv => k v G2 H2 (n0.trans n2) dv
  | false =>
    show u D σ H1
    exact h2 rfl σ G H1 D hE (hS.trans e1) fun v G2 H2 n2 dv => k v G2 H2 (n0.trans n2) dv
/-- if c: return ..; rest -/
theorem st_when (h : Et K tt es p) (h1 : p = true → St K t es d) (h2 : p = false → St K u es d) : St K (tSeq (tIfS tt t tNext) u) es d := fun σ G H D hE hS k => h σ G H hE hS _ fun H1 e1 => by
  have n0 : Nw none G H G H1 := Nw.of hS e1
  cases p with
  | true =>
    show t { D with nx := u D } σ H1
    exact h1 rfl σ G H1 _ hE (hS.trans e1) fun v G2 H2 n2 dv => k v G2 H2 (n0.trans n2) dv
  | false =>
    show u D σ H1
    exact h2 rfl σ G H1 D hE (hS.trans e1) fun v G2 H2 n2 dv => k v G2 H2 (n0.trans n2) dv
/-- if c: what is never come to -/
theorem sn_not (h : Et K tt es false) : Sn K (tIfS tt t tNext) es es := sn_if h (fun e => nomatch e) fun _ => sn_next
theorem sn_drop (h : Ed K te es d) : Sn K (tDrop te) es es := fun σ G H D hE hS k => h σ G H hE hS _ fun v G1 H1 n1 dv => k σ G1 H1 n1 (hE.mono n1.g)
/-! loops -/
theorem sn_forT {tl : TE} {g : TG} (I : Nat → List (Option PyData)) (h : Ed K tl es (.tuple ds)) (h0 : EnLe es (I 0))
    (hs : ∀ (i : Nat) (d : PyData), ds[i]? = some d → ∃ es1, Gn K g (I i) d es1 ∧ Sn K t es1 (I (i + 1))) : Sn K (tFor (iTup K tl) g t) es (I ds.length) := fun σ G H D hE hS k => by
  refine h σ G H hE hS _ fun v G1 H1 n1 dv => ?_
  obtain ⟨a, xs, rfl, hq, hd⟩ := dp_tup dv
  have hl := dps_len hd
  refine ⟨a, rfl, ⟨xs, same_seqT n1.s hq⟩, ?_⟩
  refine for_tup (xs := xs) (fun i σ' H' => ∃ G', Nw none G1 H1 G' H' ∧ En K G' σ' (I i)) ⟨G1, Nw.refl n1.s, (hE.mono n1.g).le h0⟩ (fun i σ' H' _ ⟨G', n', _⟩ => same_seqT (n1.s.trans n'.keep) hq) (fun i x σ' H' hx ⟨G', n', hE'⟩ => ?_) (fun σ' H' ⟨G', n', hE'⟩ => ?_)
  · have hi : i < ds.length := by rw [← hl]; exact (List.getElem?_eq_some_iff.mp hx).1
    obtain ⟨w, hw, dw⟩ := dps_get hd (List.getElem?_eq_getElem hi)
    have ex := Option.some.inj (hw.symm.trans hx)
    subst ex
    obtain ⟨es1, hg, hb⟩ := hs i _ (List.getElem?_eq_getElem hi)
    refine hg σ' G' H' w hE' (dpm dw n'.g) n'.s _ fun σ2 hE2 => ?_
    exact hb σ2 G' H' _ hE2 n'.s fun σ3 G3 H3 n3 hE3 => ⟨G3, n'.trans n3, hE3⟩
  · rw [hl] at hE'
    exact k σ' G' H' (n1.trans n') hE'
theorem sn_forL {tl : TE} {g : TG} (I : Nat → List (Option PyData)) (h : Ed K tl es (.list ds)) (h0 : EnLe es (I 0))
    (hs : ∀ (i : Nat) (d : PyData), ds[i]? = some d → ∃ es1, Gn K g (I i) d es1 ∧ Sn K t es1 (I (i + 1))) : Sn K (tFor (iList K tl) g t) es (I ds.length) := fun σ G H D hE hS k => by
  refine h σ G H hE hS _ fun v G1 H1 n1 dv => ?_
  obtain ⟨a, xs, rfl, hq, hd⟩ := dp_lst dv
  have hl := dps_len hd
  refine ⟨a, rfl, ⟨xs, n1.s.seq hq⟩, ?_⟩
  refine for_list (xs := xs) (fun i σ' H' => ∃ G', Nw none G1 H1 G' H' ∧ En K G' σ' (I i)) ⟨G1, Nw.refl n1.s, (hE.mono n1.g).le h0⟩ (fun i σ' H' _ ⟨G', n', _⟩ => (n1.s.trans n'.keep).seq hq) (fun i x σ' H' hx ⟨G', n', hE'⟩ => ?_) (fun σ' H' ⟨G', n', hE'⟩ => ?_)
  · have hi : i < ds.length := by rw [← hl]; exact (List.getElem?_eq_some_iff.mp hx).1
    obtain ⟨w, hw, dw⟩ := dps_get hd (List.getElem?_eq_getElem hi)
    have ex := Option.some.inj (hw.symm.trans hx)
    subst ex
    obtain ⟨es1, hg, hb⟩ := hs i _ (List.getElem?_eq_getElem hi)
    refine hg σ' G' H' w hE' (dpm dw n'.g) n'.s _ fun σ2 hE2 => ?_
    exact hb σ2 G' H' _ hE2 n'.s fun σ3 G3 H3 n3 hE3 => ⟨G3, n'.trans n3, hE3⟩
  · rw [hl] at hE'
    exact k σ' G' H' (n1.trans n') hE'
/-- while: I by a number that falls -/
theorem sn_while (I : Nat → List (Option PyData) → Prop) (m0 : Nat) (h0 : I m0 es) (fin : List (Option PyData) → Prop)
    (hs : ∀ m e1, I m e1 → ∃ b, Et K tt e1 b ∧ (b = true → ∃ m' e2, m' < m ∧ I m' e2 ∧ Sn K t e1 e2) ∧ (b = false → fin e1)) (hf : ∀ e1, fin e1 → EnLe e1 es1) : Sn K (tWhile tt t) es es1 := fun σ G H D hE hS k => by
  refine ⟨fun m σ' H' => ∃ G' e1, Nw none G H G' H' ∧ En K G' σ' e1 ∧ I m e1, ⟨m0, G, es, Nw.refl hS, hE, h0⟩, fun m σ' H' w => ?_⟩
  obtain ⟨G', e1, n', hE', hI⟩ := w
  obtain ⟨b, hb, ht, hfl⟩ := hs m e1 hI
  refine hb σ' G' H' hE' n'.s _ fun H1 s1 => ?_
  have n0 : Nw none G' H' G' H1 := Nw.of n'.s s1
  cases b with
  | true =>
    obtain ⟨m', e2, hlt, hI2, hsn⟩ := ht rfl
    show ∃ N, _ ∧ _
    refine ⟨fun σ2 H2 => ∃ m', m' < m ∧ ∃ G' e1, Nw none G H G' H2 ∧ En K G' σ2 e1 ∧ I m' e1, fun σ2 H2 q => q, ?_⟩
    exact hsn σ' G' H1 _ hE' (n'.s.trans s1) fun σ2 G2 H2 n2 hE2 => ⟨m', hlt, G2, e2, (n'.trans n0).trans n2, hE2, hI2⟩
  | false =>
    show D.nx σ' H1
    exact k σ' G' H1 (n'.trans n0) (hE'.le (hf e1 (hfl rfl)))
theorem enle_refl : EnLe es es := ⟨rfl, fun _ _ h => h⟩
end
end Wf
set_option Elab.async false
set_option linter.all false
set_option maxRecDepth 100000
set_option maxHeartbeats 1000000
/-! comprehensions, built-ins, own defs over data -/
namespace Wf
open PySem PySem.Spec PyProof.Rows L2
/-- a list of the def's own is handed on -/
theorem Nw.close {G H G' H' : Hp} {p : Addr} {o o' : HO} (n : Nw (some p) G (upd H p o) G' H') (hp : H p = none) (hs : Same G H) (h : H' p = some o') : Nw none G H (upd G' p o') H' := by
  have gp : G p = none := hs.free hp
  have gp' : G' p = none := n.f p (by rw [upd_same]; exact fun z => nomatch z) gp
  refine ⟨fun b u e => ?_, fun b u e => ?_, fun b u e => ?_, fun l hl e => ?_⟩
  · rw [upd_ne (ne_of_none e gp)]
    exact n.g b u e
  · by_cases hb : b = p
    · subst hb
      rw [upd_same] at e
      cases e
      exact h
    · rw [upd_ne hb] at e
      exact n.s b u e
  · have hb : b ≠ p := ne_of_none e hp
    obtain ⟨h1, h2⟩ := n.k b u (by rw [upd_ne hb]; exact e)
    exact ⟨h1, fun _ => h2 (fun z => hb (Option.some.inj z))⟩
  · have hb : l ≠ p := fun z => hl (by rw [z]; exact hp)
    rw [upd_ne hb]
    exact n.f l (by rw [upd_ne hb]; exact hl) e
theorem Nw.open {G H : Hp} {p : Addr} {o : HO} (hs : Same G H) (hp : H p = none) : Same G (upd H p o) := hs.trans (same_new hp)
/-- the own list is written -/
theorem Nw.put {G H : Hp} {p : Addr} {o o' : HO} (hs : Same G H) (gp : G p = none) (h : H p = some o) : Nw (some p) G H G (upd H p o') := by
  refine ⟨Same.refl G, fun b u e => ?_, fun b u e => ?_, fun l _ e => e⟩
  · rw [upd_ne (ne_of_none e gp)]
    exact hs b u e
  · by_cases hb : b = p
    · subst hb
      exact ⟨⟨o', upd_same⟩, fun z => absurd rfl z⟩
    · exact ⟨⟨u, by rw [upd_ne hb]; exact e⟩, fun _ => by rw [upd_ne hb]; exact e⟩
section
variable {K : PySem.W.Frag} {es es' es1 es2 : List (Option PyData)} {ta tb te tc tl : TE} {tt tu : TT} {d d1 d2 d3 : PyData} {ds : List PyData} {i j : Nat} {a b : Int} {p q : Bool} {vs : List Nat} {g : TG}
/-- a turn of a comprehension: D the new list -/
def CI (K : PySem.W.Frag) (G1 H1 : Hp) (D : Addr) (acc : List PyData) (H' : Hp) : Prop := ∃ G' xs, Nw (some D) G1 (upd H1 D (.lst [])) G' H' ∧ H' D = some (.lst xs) ∧ DpAll K G' xs acc
theorem ci_start {G1 H1 : Hp} {D : Addr} (hs : Same G1 H1) (hD : H1 D = none) : CI K G1 H1 D [] (upd H1 D (.lst [])) := ⟨G1, [], Nw.refl (Nw.open hs hD), upd_same, .nil⟩
theorem ci_turn {G1 H1 : Hp} {D : Addr} {acc : List PyData} {σ : L2.St} {x : V} {out : PyData} {kp : Bool} (hs1 : Same G1 H1) (hD : H1 D = none) (hE : En K G1 σ es) (hx : ∀ G', Same G1 G' → Dp K G' x d) (hl : acc.length < 100000)
    (hg : Gd K g vs (wipeE es vs) d es1) (ht : Et K tt es1 kp) (he : kp = true → Ed K te es1 out) {H' : Hp} (c : CI K G1 H1 D acc H') :
    g x (wipe σ vs) H' fun σ2 H2 => wipe σ2 vs = wipe σ vs ∧ tt σ2 H2 fun b H3 => if b = true then te σ2 H3 fun y H4 => ∃ a, H4 D = some (.lst a) ∧ a.length < sizeLine ∧ CI K G1 H1 D (acc ++ (if kp then [out] else [])) (upd H4 D (.lst (a ++ [y]))) else CI K G1 H1 D (acc ++ (if kp then [out] else [])) H3 := by
  obtain ⟨G', xs, n, h, ha⟩ := c
  have gD : G' D = none := n.f D (by rw [upd_same]; exact fun z => nomatch z) (hs1.free hD)
  refine hg _ G' H' x ((hE.mono n.g).wipe vs) (hx G' n.g) n.s _ fun σ2 hE2 w2 => ⟨by rw [w2, wipe_wipe], ?_⟩
  refine ht σ2 G' H' hE2 n.s _ fun H3 s3 => ?_
  cases kp with
  | false =>
    show CI K G1 H1 D (acc ++ []) H3
    rw [List.append_nil]
    exact ⟨G', xs, n.trans (Nw.of n.s s3), s3 D _ h, ha⟩
  | true =>
    show te σ2 H3 _
    refine he rfl σ2 G' H3 hE2 (n.s.trans s3) _ fun y G4 H4 n4 dy => ?_
    have h4 : H4 D = some (.lst xs) := n4.keep D _ (s3 D _ h)
    have g4 : G4 D = none := n4.f D (by rw [s3 D _ h]; exact fun z => nomatch z) gD
    refine ⟨xs, h4, ?_, G4, xs ++ [y], ((n.trans (Nw.of n.s s3)).trans n4.up).trans (Nw.put n4.s g4 h4), upd_same, dps_app (dpsm ha n4.g) (.cons dy .nil)⟩
    rw [dps_len ha]
    exact Nat.lt_of_lt_of_le hl (by decide)
theorem ci_end {G H G1 H1 : Hp} {D : Addr} {acc : List PyData} {H' : Hp} {Q : VK} (n1 : Nw none G H G1 H1) (hD : H1 D = none) (c : CI K G1 H1 D acc H') (k : ∀ v G' H', Nw none G H G' H' → Dp K G' v (.list acc) → Q v H') : Q (.ref D) H' := by
  obtain ⟨G', xs, n, h, ha⟩ := c
  have gD : G' D = none := n.f D (by rw [upd_same]; exact fun z => nomatch z) (n1.s.free hD)
  exact k (.ref D) (upd G' D (.lst xs)) H' (n1.trans (n.close hD n1.s h)) (.lst (SqL.of upd_same) (dpsm ha (same_new gD)))
theorem fm_take {α β : Type} (f : α → List β) (l : List α) (i : Nat) (x : α) (h : l[i]? = some x) : (l.take (i + 1)).flatMap f = (l.take i).flatMap f ++ f x := by
  rw [List.take_add_one, h, List.flatMap_append]
  simp
theorem fm_filter {α β : Type} (f : α → Bool) (o : α → β) : ∀ (l : List α), (l.flatMap fun x => if f x then [o x] else []) = (l.filter f).map o
  | [] => rfl
  | x :: l => by
    rw [List.flatMap_cons, fm_filter f o l, List.filter_cons]
    by_cases h : f x = true
    · rw [if_pos h, if_pos h]; rfl
    · rw [if_neg h, if_neg h]; rfl
theorem fm_le {α β : Type} (f : α → Bool) (o : α → β) (l : List α) : (l.flatMap fun x => if f x then [o x] else []).length ≤ l.length := by
  rw [fm_filter, List.length_map]
  exact List.length_filter_le f l
theorem fm_map {α β : Type} (o : α → β) : ∀ (l : List α), (l.flatMap fun x => if true = true then [o x] else []) = l.map o
  | [] => rfl
  | x :: l => by rw [List.flatMap_cons, fm_map o l]; rfl
theorem ed_lcTf (keep : PyData → Bool) (out : PyData → PyData) (h : Ed K tl es (.tuple ds)) (hz : ds.length ≤ 40000)
    (hs : ∀ d, d ∈ ds → ∃ es1, Gd K g vs (wipeE es vs) d es1 ∧ Et K tt es1 (keep d) ∧ (keep d = true → Ed K te es1 (out d))) : Ed K (tLc (iTup K tl) g tt te vs) es (.list (ds.flatMap fun x => if keep x then [out x] else [])) := fun σ G H hE hS Q k =>
  h σ G H hE hS _ fun v G1 H1 n1 dv => by
    obtain ⟨a, xs, rfl, hq, hd⟩ := dp_tup dv
    have hl := dps_len hd
    refine ⟨a, rfl, ⟨xs, same_seqT n1.s hq⟩, fun D hD => ?_⟩
    refine lc_tup (xs := xs) (fun i H' => CI K G1 H1 D ((ds.take i).flatMap fun x => if keep x then [out x] else []) H') (ci_start n1.s hD) (fun i H' _ ⟨G', ys, n', _⟩ => same_seqT (n'.g.trans n'.s) hq) (fun i x H' hx c => ?_) (fun H' c => ?_)
    · have hi : i < ds.length := by rw [← hl]; exact (List.getElem?_eq_some_iff.mp hx).1
      obtain ⟨w, hw, dw⟩ := dps_get hd (List.getElem?_eq_getElem hi)
      have ex := Option.some.inj (hw.symm.trans hx)
      subst ex
      obtain ⟨es1, hg, ht, he⟩ := hs ds[i] (List.getElem_mem hi)
      rw [fm_take _ _ _ _ (List.getElem?_eq_getElem hi)]
      exact ci_turn n1.s hD (hE.mono n1.g) (fun G' e => dpm dw e) (by have := fm_le keep out (ds.take i); rw [List.length_take] at this; omega) hg ht he c
    · rw [hl, List.take_length] at c
      exact ci_end n1 hD c k
theorem ed_lcLf (keep : PyData → Bool) (out : PyData → PyData) (h : Ed K tl es (.list ds)) (hz : ds.length ≤ 40000)
    (hs : ∀ d, d ∈ ds → ∃ es1, Gd K g vs (wipeE es vs) d es1 ∧ Et K tt es1 (keep d) ∧ (keep d = true → Ed K te es1 (out d))) : Ed K (tLc (iList K tl) g tt te vs) es (.list (ds.flatMap fun x => if keep x then [out x] else [])) := fun σ G H hE hS Q k =>
  h σ G H hE hS _ fun v G1 H1 n1 dv => by
    obtain ⟨a, xs, rfl, hq, hd⟩ := dp_lst dv
    have hl := dps_len hd
    refine ⟨a, rfl, ⟨xs, n1.s.seq hq⟩, fun D hD => ?_⟩
    refine lc_list (xs := xs) (fun i H' => CI K G1 H1 D ((ds.take i).flatMap fun x => if keep x then [out x] else []) H') (ci_start n1.s hD) (fun i H' _ ⟨G', ys, n', _⟩ => (n'.g.trans n'.s).seq hq) (fun i x H' hx c => ?_) (fun H' c => ?_)
    · have hi : i < ds.length := by rw [← hl]; exact (List.getElem?_eq_some_iff.mp hx).1
      obtain ⟨w, hw, dw⟩ := dps_get hd (List.getElem?_eq_getElem hi)
      have ex := Option.some.inj (hw.symm.trans hx)
      subst ex
      obtain ⟨es1, hg, ht, he⟩ := hs ds[i] (List.getElem_mem hi)
      rw [fm_take _ _ _ _ (List.getElem?_eq_getElem hi)]
      exact ci_turn n1.s hD (hE.mono n1.g) (fun G' e => dpm dw e) (by have := fm_le keep out (ds.take i); rw [List.length_take] at this; omega) hg ht he c
    · rw [hl, List.take_length] at c
      exact ci_end n1 hD c k
theorem ed_lcT (out : PyData → PyData) (h : Ed K tl es (.tuple ds)) (hz : ds.length ≤ 40000) (hs : ∀ d, d ∈ ds → ∃ es1, Gd K g vs (wipeE es vs) d es1 ∧ Ed K te es1 (out d)) : Ed K (tLc (iTup K tl) g tYes te vs) es (.list (ds.map out)) := by
  have z := ed_lcTf (K := K) (vs := vs) (g := g) (tt := tYes) (te := te) (fun _ => true) out h hz fun d hd => by
    obtain ⟨es1, h1, h2⟩ := hs d hd
    exact ⟨es1, h1, et_yes, fun _ => h2⟩
  rw [fm_map out ds] at z
  exact z
theorem ed_lcL (out : PyData → PyData) (h : Ed K tl es (.list ds)) (hz : ds.length ≤ 40000) (hs : ∀ d, d ∈ ds → ∃ es1, Gd K g vs (wipeE es vs) d es1 ∧ Ed K te es1 (out d)) : Ed K (tLc (iList K tl) g tYes te vs) es (.list (ds.map out)) := by
  have z := ed_lcLf (K := K) (vs := vs) (g := g) (tt := tYes) (te := te) (fun _ => true) out h hz fun d hd => by
    obtain ⟨es1, h1, h2⟩ := hs d hd
    exact ⟨es1, h1, et_yes, fun _ => h2⟩
  rw [fm_map out ds] at z
  exact z
theorem ed_lcLF (keep : PyData → Bool) (out : PyData → PyData) (h : Ed K tl es (.list ds)) (hz : ds.length ≤ 40000)
    (hs : ∀ d, d ∈ ds → ∃ es1, Gd K g vs (wipeE es vs) d es1 ∧ Et K tt es1 (keep d) ∧ (keep d = true → Ed K te es1 (out d))) : Ed K (tLc (iList K tl) g tt te vs) es (.list ((ds.filter keep).map out)) := by
  have z := ed_lcLf keep out h hz hs
  rw [fm_filter keep out ds] at z
  exact z
/-- over range(n) -/
theorem ed_lcR {ta : TA} {n : Int} (out : Nat → PyData) (h : Ea K ta es [.int n]) (h0 : 0 ≤ n) (hz : n ≤ 40000) (hs : ∀ i : Nat, (i : Int) < n → ∃ es1, Gd K g vs (wipeE es vs) (.int i) es1 ∧ Ed K te es1 (out i)) :
    Ed K (tLc (iRng1 ta) g tYes te vs) es (.list ((List.range n.toNat).map out)) := fun σ G H hE hS Q k =>
  h σ G H hE hS _ fun us G1 H1 n1 dv => by
    have e : us = [.int n] := by
      cases dv with
      | cons h1 h2 => cases h2; rw [dp_int h1]
    refine ⟨n, e, by omega, by omega, fun D hD => ?_⟩
    refine lc_range (lo := 0) (n := n.toNat) (fun i H' => CI K G1 H1 D ((List.range i).map out) H') (ci_start n1.s hD) (fun i H' hi c => ?_) (fun H' c => ci_end n1 hD c k)
    obtain ⟨es1, hg, he⟩ := hs i (by omega)
    have e0 : V.int ((0 : Int) + (i : Int)) = V.int i := by rw [Int.zero_add]
    show g (V.int ((0 : Int) + (i : Int))) _ _ _
    rw [e0]
    have z := ci_turn (K := K) (g := g) (vs := vs) (tt := tYes) (te := te) (kp := true) (acc := (List.range i).map out) (x := .int i) (d := .int i) n1.s hD (hE.mono n1.g) (fun G' _ => .int _) (by rw [List.length_map, List.length_range]; omega) hg et_yes (fun _ => he) c
    have e2 : (List.range (i + 1)).map out = (List.range i).map out ++ (if true = true then [out i] else []) := by rw [List.range_succ, List.map_append]; rfl
    rw [e2]
    exact z
/-! ### built-ins -/
theorem dps1 {G : Hp} {ws : List V} (h : DpAll K G ws [d]) : ∃ v, ws = [v] ∧ Dp K G v d := by
  cases h with
  | cons h1 h2 => cases h2; exact ⟨_, rfl, h1⟩
theorem dps2 {G : Hp} {ws : List V} (h : DpAll K G ws [d, d1]) : ∃ v w, ws = [v, w] ∧ Dp K G v d ∧ Dp K G w d1 := by
  cases h with
  | cons h1 h2 =>
    obtain ⟨w, e, h3⟩ := dps1 h2
    exact ⟨_, w, by rw [e], h1, h3⟩
theorem bc_lenT : Bc K (fun xs H Q => ∃ p ys, xs = [.ref p] ∧ (SqL K H p ys ∨ SqT K H p ys) ∧ Q (.int ys.length) H) [.tuple ds] (.int ds.length) := fun G H ws hd hS Q k => by
  obtain ⟨v, rfl, hv⟩ := dps1 hd
  obtain ⟨p, xs, rfl, hq, ha⟩ := dp_tup hv
  exact ⟨p, xs, rfl, .inr (same_seqT hS hq), k _ G H (Nw.refl hS) (by rw [dps_len ha]; exact .int _)⟩
theorem bc_lenL : Bc K (fun xs H Q => ∃ p ys, xs = [.ref p] ∧ (SqL K H p ys ∨ SqT K H p ys) ∧ Q (.int ys.length) H) [.list ds] (.int ds.length) := fun G H ws hd hS Q k => by
  obtain ⟨v, rfl, hv⟩ := dps1 hd
  obtain ⟨p, xs, rfl, hq, ha⟩ := dp_lst hv
  exact ⟨p, xs, rfl, .inl (hS.seq hq), k _ G H (Nw.refl hS) (by rw [dps_len ha]; exact .int _)⟩
theorem ed_lenT {n : Int} (h : Ed K ta es (.tuple ds)) (e : (ds.length : Int) = n) : Ed K (tCB (fun xs H Q => ∃ p ys, xs = [.ref p] ∧ (SqL K H p ys ∨ SqT K H p ys) ∧ Q (.int ys.length) H) (tCons ta tNil)) es (.int n) := by
  rw [← e]
  exact ed_cb (ea_cons h ea_nil) bc_lenT
theorem ed_lenL {n : Int} (h : Ed K ta es (.list ds)) (e : (ds.length : Int) = n) : Ed K (tCB (fun xs H Q => ∃ p ys, xs = [.ref p] ∧ (SqL K H p ys ∨ SqT K H p ys) ∧ Q (.int ys.length) H) (tCons ta tNil)) es (.int n) := by
  rw [← e]
  exact ed_cb (ea_cons h ea_nil) bc_lenL
theorem bc_all {bs : List Bool} : Bc K (rAll K) [.list (bs.map .bool)] (.bool (bs.all id)) := fun G H ws hd hS Q k => by
  obtain ⟨v, rfl, hv⟩ := dps1 hd
  obtain ⟨p, xs, rfl, hq, ha⟩ := dp_lst hv
  have e := dps_bls ha
  subst e
  exact ⟨p, bs, rfl, hS.seq hq, k _ G H (Nw.refl hS) (.bl _)⟩
theorem bc_any {bs : List Bool} : Bc K (rAny K) [.list (bs.map .bool)] (.bool (bs.any id)) := fun G H ws hd hS Q k => by
  obtain ⟨v, rfl, hv⟩ := dps1 hd
  obtain ⟨p, xs, rfl, hq, ha⟩ := dp_lst hv
  have e := dps_bls ha
  subst e
  exact ⟨p, bs, rfl, hS.seq hq, k _ G H (Nw.refl hS) (.bl _)⟩
theorem bc_tuple : Bc K (fun xs H Q => ∃ p ys, xs = [.ref p] ∧ ((SqL K H p ys ∧ ∀ l, H l = none → Q (.ref l) (upd H l (.tup ys))) ∨ (SqT K H p ys ∧ Q (.ref p) H))) [.list ds] (.tuple ds) := fun G H ws hd hS Q k => by
  obtain ⟨v, rfl, hv⟩ := dps1 hd
  obtain ⟨p, xs, rfl, hq, ha⟩ := dp_lst hv
  exact ⟨p, xs, rfl, .inl ⟨hS.seq hq, fun l hl => k (.ref l) (upd G l (.tup xs)) _ (Nw.new hS hl) (.tup (SqT.of upd_same) (dpsm ha (same_new (hS.free hl))))⟩⟩
theorem bc_listT : Bc K (fun xs H Q => ∃ p ys, xs = [.ref p] ∧ (SqL K H p ys ∨ SqT K H p ys) ∧ ∀ l, H l = none → Q (.ref l) (upd H l (.lst ys))) [.tuple ds] (.list ds) := fun G H ws hd hS Q k => by
  obtain ⟨v, rfl, hv⟩ := dps1 hd
  obtain ⟨p, xs, rfl, hq, ha⟩ := dp_tup hv
  exact ⟨p, xs, rfl, .inr (same_seqT hS hq), fun l hl => k (.ref l) (upd G l (.lst xs)) _ (Nw.new hS hl) (.lst (SqL.of upd_same) (dpsm ha (same_new (hS.free hl))))⟩
theorem bc_listL : Bc K (fun xs H Q => ∃ p ys, xs = [.ref p] ∧ (SqL K H p ys ∨ SqT K H p ys) ∧ ∀ l, H l = none → Q (.ref l) (upd H l (.lst ys))) [.list ds] (.list ds) := fun G H ws hd hS Q k => by
  obtain ⟨v, rfl, hv⟩ := dps1 hd
  obtain ⟨p, xs, rfl, hq, ha⟩ := dp_lst hv
  exact ⟨p, xs, rfl, .inl (hS.seq hq), fun l hl => k (.ref l) (upd G l (.lst xs)) _ (Nw.new hS hl) (.lst (SqL.of upd_same) (dpsm ha (same_new (hS.free hl))))⟩
theorem bc_abs : Bc K (fun xs H Q => ∃ i, xs = [.int i] ∧ Q (.int (if i < 0 then -i else i)) H) [.int a] (.int (if a < 0 then -a else a)) := fun G H ws hd hS Q k => by
  obtain ⟨v, rfl, hv⟩ := dps1 hd
  cases dp_int hv
  exact ⟨a, rfl, k _ G H (Nw.refl hS) (.int _)⟩
theorem bc_max2 : Bc K (fun xs H Q => ∃ i j, xs = [.int i, .int j] ∧ Q (.int (if j > i then j else i)) H) [.int a, .int b] (.int (if b > a then b else a)) := fun G H ws hd hS Q k => by
  obtain ⟨v, w, rfl, hv, hw⟩ := dps2 hd
  cases dp_int hv
  cases dp_int hw
  exact ⟨a, b, rfl, k _ G H (Nw.refl hS) (.int _)⟩
theorem bc_min2 : Bc K (fun xs H Q => ∃ i j, xs = [.int i, .int j] ∧ Q (.int (if j < i then j else i)) H) [.int a, .int b] (.int (if b < a then b else a)) := fun G H ws hd hS Q k => by
  obtain ⟨v, w, rfl, hv, hw⟩ := dps2 hd
  cases dp_int hv
  cases dp_int hw
  exact ⟨a, b, rfl, k _ G H (Nw.refl hS) (.int _)⟩
theorem bc_int1 : Bc K (fun xs H Q => (∃ i, xs = [.int i] ∧ Q (.int i) H) ∨ ∃ k, xs = [.bl k] ∧ Q (.int (if k then 1 else 0)) H) [.int a] (.int a) := fun G H ws hd hS Q k => by
  obtain ⟨v, rfl, hv⟩ := dps1 hd
  cases dp_int hv
  exact .inl ⟨a, rfl, k _ G H (Nw.refl hS) (.int _)⟩
theorem bc_divmod (h : CDiv a b) : Bc K (fun xs H Q => ∃ i j, xs = [.int i, .int j] ∧ CDiv i j ∧ ∀ p, H p = none → Q (.ref p) (upd H p (.tup [.int (i / j), .int (i % j)]))) [.int a, .int b] (.tuple [.int (a / b), .int (a % b)]) := fun G H ws hd hS Q k => by
  obtain ⟨v, w, rfl, hv, hw⟩ := dps2 hd
  cases dp_int hv
  cases dp_int hw
  exact ⟨a, b, rfl, h, fun p hp => k (.ref p) (upd G p _) _ (Nw.new hS hp) (.tup (SqT.of upd_same) (.cons (.int _) (.cons (.int _) .nil)))⟩
theorem bc_gcd : Bc K rGcd [.int a, .int b] (.int ((Nat.gcd a.natAbs b.natAbs : Nat) : Int)) := fun G H ws hd hS Q k => by
  obtain ⟨v, w, rfl, hv, hw⟩ := dps2 hd
  cases dp_int hv
  cases dp_int hw
  exact ⟨a, b, rfl, k _ G H (Nw.refl hS) (.int _)⟩
def rLcm : List V → Hp → VK → Prop := fun vs H Q => ∃ a b : Int, vs = [.int a, .int b] ∧ a.natAbs < 2 ^ 64 ∧ b.natAbs < 2 ^ 64 ∧ Q (.int ((Nat.lcm a.natAbs b.natAbs : Nat) : Int)) H
theorem cr_lcm {X : Cx} : CallR X (.builtin "math.lcm") rLcm := by
  intro pins s σ H vs us Q I r h
  obtain ⟨a, b, rfl, ha, hb, q⟩ := h
  obtain ⟨t, u, rfl⟩ := Vals.int2 r
  exact PySem.W.mc_lcm ha hb fun _ => ⟨.int _, H, I.tok _, ⟨_, rfl⟩, q⟩
theorem bc_lcm (h1 : a.natAbs < 2 ^ 64) (h2 : b.natAbs < 2 ^ 64) : Bc K rLcm [.int a, .int b] (.int ((Nat.lcm a.natAbs b.natAbs : Nat) : Int)) := fun G H ws hd hS Q k => by
  obtain ⟨v, w, rfl, hv, hw⟩ := dps2 hd
  cases dp_int hv
  cases dp_int hw
  exact ⟨a, b, rfl, h1, h2, k _ G H (Nw.refl hS) (.int _)⟩
/-! isinstance -/
inductive TyD : PyData → String → Prop where
  | int (i : Int) : TyD (.int i) "int"
  | tup (ds : List PyData) : TyD (.tuple ds) "tuple"
theorem tyX_of {G H : Hp} {v : V} {n : String} (hS : Same G H) (h : Dp K G v d) (t : TyD d n) : TyX K H v (.type n) := by
  cases t with
  | int i => cases dp_int h; exact .base (.int i)
  | tup ds =>
    obtain ⟨a, xs, rfl, hs, _⟩ := dp_tup h
    rcases hs with (hs | ⟨o, hs⟩) | ⟨o, its, n, h1, h2, _⟩
    · exact .base (.tup (hS _ _ hs))
    · exact .fTuple (hS _ _ hs)
    · exact .kTuple h1 h2
theorem ed_isi {n : String} {m : String} {r : Bool} (ha : Ed K ta es d) (t : TyD d n) (hk : kitB n m = some r) : Ed K (tCB (rIsi K) (tCons ta (tCons (tC (.ty m)) tNil))) es (.bool r) := fun σ G H hE hS Q k =>
  ha σ G H hE hS _ fun v G1 H1 n1 dv => ⟨v, .ty m, .type n, .type m, r, rfl, .ty m, tyX_of n1.s dv t, kit_ty hk, k _ G1 H1 n1 (.bl r)⟩
/-! slices, sums of lists -/
theorem dps_cut {G : Hp} {xs : List V} {lo hi : Option Int} (h : DpAll K G xs ds) : DpAll K G (cutV xs lo hi) ((ds.drop (HT.sIx ds.length 0 lo)).take (HT.sIx ds.length ds.length hi - HT.sIx ds.length 0 lo)) := by
  unfold cutV
  rw [dps_len h]
  exact dps_take _ (dps_drop _ h)
def cutD (ds : List PyData) (lo hi : Option Int) : List PyData := (ds.drop (HT.sIx ds.length 0 lo)).take (HT.sIx ds.length ds.length hi - HT.sIx ds.length 0 lo)
def Eo (K : PySem.W.Frag) (to : TO) (es : List (Option PyData)) (o : Option Int) : Prop := ∀ σ G H, En K G σ es → Same G H → ∀ Q : Option Int → Hp → Prop, (∀ H', Same H H' → Q o H') → to σ H Q
theorem eo_none : Eo K tNoPart es none := fun σ G H hE hS Q k => k H (Same.refl H)
theorem eo_some (h : Ed K te es (.int a)) : Eo K (tPart te) es (some a) := fun σ G H hE hS Q k => h σ G H hE hS _ fun v G1 H1 n1 dv => by
  cases dp_int dv
  exact ⟨a, rfl, k H1 n1.keep⟩
theorem ed_slL {to tp : TO} {lo hi : Option Int} (h : Ed K te es (.list ds)) (h1 : Eo K to es lo) (h2 : Eo K tp es hi) : Ed K (tSl (rSlL K) te to tp) es (.list (cutD ds lo hi)) := fun σ G H hE hS Q k =>
  h σ G H hE hS _ fun v G1 H1 n1 dv => h1 σ G1 H1 (hE.mono n1.g) n1.s _ fun H2 s2 => h2 σ G1 H2 (hE.mono n1.g) (n1.s.trans s2) _ fun H3 s3 => by
    obtain ⟨p, xs, rfl, hq, ha⟩ := dp_lst dv
    have s13 : Same G1 H3 := (n1.s.trans s2).trans s3
    exact ⟨p, xs, rfl, s13.seq hq, fun l hl => k (.ref l) (upd G1 l (.lst (cutV xs lo hi))) _ ((n1.trans (Nw.of n1.s (s2.trans s3))).trans (Nw.new s13 hl)) (.lst (SqL.of upd_same) (dpsm (dps_cut ha) (same_new (s13.free hl))))⟩
theorem ed_slT {to tp : TO} {lo hi : Option Int} (h : Ed K te es (.tuple ds)) (h1 : Eo K to es lo) (h2 : Eo K tp es hi) (hn : ¬ (HT.sIx ds.length 0 lo = 0 ∧ HT.sIx ds.length ds.length hi = ds.length)) : Ed K (tSl (rSlT K) te to tp) es (.tuple (cutD ds lo hi)) := fun σ G H hE hS Q k =>
  h σ G H hE hS _ fun v G1 H1 n1 dv => h1 σ G1 H1 (hE.mono n1.g) n1.s _ fun H2 s2 => h2 σ G1 H2 (hE.mono n1.g) (n1.s.trans s2) _ fun H3 s3 => by
    obtain ⟨p, xs, rfl, hq, ha⟩ := dp_tup dv
    have s13 : Same G1 H3 := (n1.s.trans s2).trans s3
    have hc := dps_cut (lo := lo) (hi := hi) ha
    refine ⟨p, xs, rfl, same_seqT s13 hq, ?_⟩
    first
      | exact ⟨by rw [dps_len ha]; exact hn, fun l hl => k (.ref l) (upd G1 l (.tup (cutV xs lo hi))) _ ((n1.trans (Nw.of n1.s (s2.trans s3))).trans (Nw.new s13 hl)) (.tup (SqT.of upd_same) (dpsm hc (same_new (s13.free hl))))⟩
theorem ed_revL (h : Ed K te es (.list ds)) : Ed K (tRevL K te) es (.list ds.reverse) := fun σ G H hE hS Q k =>
  h σ G H hE hS _ fun v G1 H1 n1 dv => by
    obtain ⟨p, xs, rfl, hq, ha⟩ := dp_lst dv
    exact ⟨p, xs, rfl, n1.s.seq hq, fun l hl => k (.ref l) (upd G1 l (.lst xs.reverse)) _ (n1.trans (Nw.new n1.s hl)) (.lst (SqL.of upd_same) (dpsm (dps_rev ha) (same_new (n1.s.free hl))))⟩
end
end Wf
set_option Elab.async false
set_option linter.all false
set_option maxRecDepth 100000
set_option maxHeartbeats 1000000
/-! own defs: what is known of them, how they are called -/
namespace Wf
open PySem PySem.Spec PyProof.Rows L2
theorem bb_len : bootBuiltins "len" = some (.builtin "len") := by decide +kernel
theorem bb_all : bootBuiltins "all" = some (.builtin "all") := by decide +kernel
theorem bb_any : bootBuiltins "any" = some (.builtin "any") := by decide +kernel
theorem bb_abs : bootBuiltins "abs" = some (.builtin "abs") := by decide +kernel
theorem bb_max : bootBuiltins "max" = some (.builtin "max") := by decide +kernel
theorem bb_min : bootBuiltins "min" = some (.builtin "min") := by decide +kernel
theorem bb_divmod : bootBuiltins "divmod" = some (.builtin "divmod") := by decide +kernel
theorem bb_isinstance : bootBuiltins "isinstance" = some (.builtin "isinstance") := by decide +kernel
theorem bb_sorted : bootBuiltins "sorted" = some (.builtin "sorted") := by decide +kernel
theorem bb_repr : bootBuiltins "repr" = some (.builtin "repr") := by decide +kernel
theorem bb_tuple : bootBuiltins "tuple" = some (.type "tuple") := by decide +kernel
theorem bb_list : bootBuiltins "list" = some (.type "list") := by decide +kernel
theorem bb_int : bootBuiltins "int" = some (.type "int") := by decide +kernel
theorem bb_bool : bootBuiltins "bool" = some (.type "bool") := by decide +kernel
theorem bb_set : bootBuiltins "set" = some (.type "set") := by decide +kernel
/-- what the module's names stand for -/
structure Blt (K : PySem.W.Frag) (mg : Str → Option Value) : Prop where
  abs : mg "abs" = none
  all : mg "all" = none
  any : mg "any" = none
  divmod : mg "divmod" = none
  enumerate : mg "enumerate" = none
  int : mg "int" = none
  isinstance : mg "isinstance" = none
  len : mg "len" = none
  list : mg "list" = none
  max : mg "max" = none
  min : mg "min" = none
  range : mg "range" = none
  repr : mg "repr" = none
  set : mg "set" = none
  sorted : mg "sorted" = none
  tuple : mg "tuple" = none
  bool : mg "bool" = none
  gcd : mg "gcd" = some (.builtin "math.gcd")
  lcm : mg "lcm" = some (.builtin "math.lcm")
  nought : mg "NOUGHT" = some (.ref (He.ga K "NOUGHT"))
  nought3 : ∀ H, SqT K H (He.ga K "NOUGHT") [.int 0, .int 0, .int 1]
/-- a def of the text, as the top leaves it -/
def DefOk (K : PySem.W.Frag) (mg : Str → Option Value) (x : Str) (st : Stmt) (ps : List Str) : Prop := ∃ fd, FnP K x st (He.ga K x) fd ∧ mg x = some (.ref (He.ga K x)) ∧ Binds K fd ps []
/-- a def that keeps its promise -/
def OkF (P : Program) (w : World) (K : PySem.W.Frag) (mg : Str → Option Value) (base : Heap) (k : Nat) (x : Str) (st : Stmt) (ps : List Str) (sp : Sp) : Prop :=
  ∃ fd, FnOk P w K mg base CX0 k (He.ga K x) fd ps sp ∧ FnP K x st (He.ga K x) fd ∧ mg x = some (.ref (He.ga K x)) ∧ Binds K fd ps []
theorem pe_own {X : Cx} {k : Nat} {x : Str} {st : Stmt} {ps : List Str} {sp : Sp} {p pos : Pos} {e : Expr} {es : List Expr} {t : TA} (h : OkF X.prog X.w X.K X.mg X.base k x st ps sp) (hr : Room k X.A) (hg : Gl X x) (ha : PA X (e :: es) t)
    (hdb : (x == ("__debug__" : Str)) = false := by decide) (he : starEach (e :: es) X.env = (false, eval e X.env) :: starEach es X.env := by rfl) (hpl : (backTo pos (starEach es X.env)).any (·.1) = false := by rfl) :
    PE X (.Call (.Name x p) (e :: es) [] pos) (tCall sp [] E0 t) := by
  obtain ⟨fd, F, FF, hm, hb⟩ := h
  exact pe_call F hr hg hm FF.kp hb .nil pass0 ha hdb he hpl
section
variable {P : Program} {w : World} {K : PySem.W.Frag} {mg : Str → Option Value} {base : Heap} {x : Str} {st : Stmt} {ps N : List Str} {k : Nat}
theorem ok_sp {sp : Sp} (h : DefOk K mg x st ps) (S : FnScope N ps (defScope st)) (hlen : ∀ vs H Q E, sp vs H Q E → vs.length = ps.length)
    (body : ∀ (cdv : Value) (A : Around) (outer : List Env) (s : Shared) (H0 : Hp) (E : XK), Room k (A.deeper (envOfC x (defScope st) s.heap.objs.size (He.ga K x) cdv)) →
      ∃ t, PSs (cxOf CX0 P w K mg base N x (defScope st) (He.ga K x) cdv A outer s H0 E).nox (defBody st) t ∧ ∀ vs H Q E', sp vs H Q E' → t { nx := fun _ H' => Q .non H', rt := Q } (L2.start N vs) H) : OkF P w K mg base (k + 1) x st ps sp := by
  obtain ⟨fd, F, hm, hb⟩ := h
  refine ⟨fd, F.ok S hlen (fun cdv A outer s H vs Q E hr hs => ?_), F, hm, hb⟩
  obtain ⟨t, h1, h2⟩ := body cdv A outer s H E hr
  exact ⟨t, PSs.nox h1, h2 vs H Q E hs⟩
theorem ok_of {R : List PyData → PyData → Prop} (h : DefOk K mg x st ps) (S : FnScope N ps (defScope st)) (hlen : ∀ ds d, R ds d → ds.length = ps.length)
    (body : ∀ (cdv : Value) (A : Around) (outer : List Env) (s : Shared) (H0 : Hp) (E : XK), Room k (A.deeper (envOfC x (defScope st) s.heap.objs.size (He.ga K x) cdv)) →
      ∃ t, PSs (cxOf CX0 P w K mg base N x (defScope st) (He.ga K x) cdv A outer s H0 E).nox (defBody st) t ∧ ∀ ds d, R ds d → St K t (sEnv N ds) d) : OkF P w K mg base (k + 1) x st ps (spD K R) :=
  ok_sp h S (fun vs H Q E ⟨G, ds, d, _, hd, hr, _⟩ => by rw [dps_len hd]; exact hlen ds d hr) fun cdv A outer s H0 E hr => by
    obtain ⟨t, h1, h2⟩ := body cdv A outer s H0 E hr
    refine ⟨t, h1, fun vs H Q E' ⟨G, ds, d, hs, hd, hr, q⟩ => ?_⟩
    exact h2 ds d hr _ G H _ (dps_env hd) hs q
theorem ok_ofN {R : List PyData → PyData → Prop} (h : DefOk K mg x st ps) (S : FnScope N ps (defScope st)) (hlen : ∀ ds d, R ds d → ds.length = ps.length)
    (body : ∀ (cdv : Value) (A : Around) (outer : List Env) (s : Shared) (H0 : Hp) (E : XK), Room k (A.deeper (envOfC x (defScope st) s.heap.objs.size (He.ga K x) cdv)) →
      ∃ t, PSs (cxOf CX0 P w K mg base N x (defScope st) (He.ga K x) cdv A outer s H0 E).nox (defBody st) t ∧ ∀ ds d, R ds d → d = .none ∧ ∃ es', Sn K t (sEnv N ds) es') : OkF P w K mg base (k + 1) x st ps (spD K R) :=
  ok_sp h S (fun vs H Q E ⟨G, ds, d, _, hd, hr, _⟩ => by rw [dps_len hd]; exact hlen ds d hr) fun cdv A outer s H0 E hr => by
    obtain ⟨t, h1, h2⟩ := body cdv A outer s H0 E hr
    refine ⟨t, h1, fun vs H Q E' ⟨G, ds, d, hs, hd, hr, q⟩ => ?_⟩
    obtain ⟨rfl, es', h3⟩ := h2 ds d hr
    exact h3 _ G H _ (dps_env hd) hs fun σ' G' H' n _ => q .non G' H' n .non
end
/-- a list display beside another, whatever they are -/
def rCatL (K : PySem.W.Frag) : R2 := fun x y H Q => ∃ l b xs zs, x = .ref l ∧ y = .ref b ∧ SqL K H l xs ∧ SqL K H b zs ∧ xs.length + zs.length ≤ sizeLine ∧ ∀ p, H p = none → Q (.ref p) (upd H p (.lst (xs ++ zs)))
theorem op_catL {X : Cx} : OpR X (binaryOp .Add) (rCatL X.K) := by
  intro pins s σ H x y v u Q I rx ry h
  obtain ⟨l, b, xs, zs, rfl, rfl, hH, hB, hz, q⟩ := h
  cases rx
  cases ry
  obtain ⟨its, r, pl, _⟩ := I.list hH
  obtain ⟨its2, r2, pl2, _⟩ := I.list hB
  have hl := r.length
  have hl2 := r2.length
  obtain ⟨⟨cls, dd, data, sl⟩, ho, hc, n, hd⟩ := pl.isList
  obtain ⟨⟨cls2, dd2, data2, sl2⟩, ho2, hc2, n2, hd2⟩ := pl2.isList
  simp only at hc hd hc2 hd2
  subst hc hd hc2 hd2
  have ea : its.toArray ++ its2.toArray = (its ++ its2).toArray := by simp
  refine concat_meets ⟨_, ho, rfl⟩ ⟨_, ho2, rfl⟩ noFill_list_add seq_list_add PySem.F.slot_list_add PySem.F.entry_list_add (PySem.F.args_list_add_2 _ _) (list_addW l b its.toArray its2.toArray n n2 dd dd2 sl sl2 (by rw [List.size_toArray, List.size_toArray]; omega)) ⟨ho, ho2, ?_⟩
  rw [ea]
  exact ⟨.ref _, _, I.lnew (t' := s.toks) (r.append r2) (by rw [List.length_append]; omega), rfl, q _ I.fresh⟩
section
variable {K : PySem.W.Frag} {es : List (Option PyData)} {ta tb : TE} {ds ds2 : List PyData}
theorem ed_cat (ha : Ed K ta es (.list ds)) (hb : Ed K tb es (.list ds2)) (hz : ds.length + ds2.length ≤ 100000) : Ed K (tOp (rCatL K) ta tb) es (.list (ds ++ ds2)) := ed_op ha hb fun G H x y hx hy hS Q k => by
  obtain ⟨p, xs, rfl, hq, h1⟩ := dp_lst hx
  obtain ⟨p2, ys, rfl, hq2, h2⟩ := dp_lst hy
  exact ⟨p, p2, xs, ys, rfl, rfl, hS.seq hq, hS.seq hq2, by rw [dps_len h1, dps_len h2]; exact sz_of hz, fun l hl => k (.ref l) (upd G l (.lst (xs ++ ys))) _ (Nw.new hS hl) (.lst (SqL.of upd_same) (dps_app (dpsm h1 (same_new (hS.free hl))) (dpsm h2 (same_new (hS.free hl)))))⟩
theorem ed_nought {mg : Str → Option Value} (T : Blt K mg) : Ed K (tC (.ref (He.ga K "NOUGHT"))) es (.tuple [.int 0, .int 0, .int 1]) := ed_c fun G => .tup (T.nought3 G) (.cons (.int 0) (.cons (.int 0) (.cons (.int 1) .nil)))
end
end Wf
set_option Elab.async false
set_option linter.all false
set_option maxRecDepth 100000
set_option maxHeartbeats 2000000
/-! the defs of values, ratios, vectors -/
namespace Wf
open PySem PySem.Spec PyProof.Rows L2
abbrev iv (ns : List Int) : List PyData := ns.map PyData.int
abbrev S20 (n : Int) : Prop := -1048576 < n ∧ n < 1048576
def cdiv (ns : List Int) : Int := ns.foldl (fun a n => ((Nat.gcd a.natAbs n.natAbs : Nat) : Int)) 0
def lowst (ns : List Int) : List Int := ns.map fun n => n / cdiv ns
def R_is_whole (ds : List PyData) (d : PyData) : Prop := ∃ n : Int, ds = [.int n] ∧ d = .bool true
def R_are_wholes (ds : List PyData) (d : PyData) : Prop := ∃ (ns : List Int) (m : Int), ds = [.tuple (iv ns), .int m] ∧ ns.length ≤ 1000 ∧ d = .bool (decide ((ns.length : Int) = m))
def R_common_divisor (ds : List PyData) (d : PyData) : Prop := ∃ ns : List Int, ds = [.tuple (iv ns)] ∧ d = .int (cdiv ns)
def R_lowest (ds : List PyData) (d : PyData) : Prop := ∃ ns : List Int, ds = [.tuple (iv ns)] ∧ ns.length ≤ 1000 ∧ CDiv 0 (cdiv ns) ∧ d = .tuple (iv (lowst ns))
def R_is_lowest (ds : List PyData) (d : PyData) : Prop := ∃ ns : List Int, ds = [.tuple (iv ns)] ∧ d = .bool (decide (cdiv ns = 1))
theorem at_iv {ns : List Int} {j : Nat} {n : Int} (h : ns[j]? = some n) : atI (iv ns) (j : Int) = some (.int n) := atI_nat (by rw [List.getElem?_map, h]; rfl)
section
variable {P : Program} {w : World} {K : PySem.W.Frag} {mg : Str → Option Value} {base : Heap} (T : Blt K mg)
include T
theorem ok_is_whole (D : DefOk K mg "is_whole" s_is_whole p_is_whole)  : OkF P w K mg base 1 "is_whole" s_is_whole p_is_whole (spD K R_is_whole) := by
  refine ok_of D c_is_whole (fun ds d h => ?_) (fun cdv A outer s H0 E hr => ⟨_, (pss_one (ps_ret (pe_and (pe_callB call_isi (by rfl) T.isinstance bb_isinstance (pa_cons (pv 0) (pa_cons (pe_bltn (v := .ty "int") (by rfl) T.int bb_int rfl) pa_nil))) (pe_one (pe_not (pe_callB call_isi (by rfl) T.isinstance bb_isinstance (pa_cons (pv 0) (pa_cons (pe_bltn (v := .ty "bool") (by rfl) T.bool bb_bool rfl) pa_nil)))))))), fun ds d h => ?_⟩)
  · obtain ⟨n, rfl, _⟩ := h; rfl
  · obtain ⟨n, rfl, rfl⟩ := h
    exact st_ret ((ed_andV (p := true) (q := true) (ed_isi (ed_var) (.int n) (by decide +kernel)) fun _ => ed_notV (p := false) (ed_isi (ed_var) (.int n) (by decide +kernel))))
theorem ok_are_wholes (D : DefOk K mg "are_wholes" s_are_wholes p_are_wholes) (o_is_whole : OkF P w K mg base 1 "is_whole" s_is_whole p_is_whole (spD K R_is_whole)) : OkF P w K mg base 2 "are_wholes" s_are_wholes p_are_wholes (spD K R_are_wholes) := by
  refine ok_of D c_are_wholes (fun ds d h => ?_) (fun cdv A outer s H0 E hr => ⟨_, (pss_one (ps_ret (pe_and (pe_callB call_isi (by rfl) T.isinstance bb_isinstance (pa_cons (pv 0) (pa_cons (pe_bltn (v := .ty "tuple") (by rfl) T.tuple bb_tuple rfl) pa_nil))) (pe_and (pe_cmpR op_eq (pe_callB call_len_seq (by rfl) T.len bb_len (pa_cons (pv 0) pa_nil)) (pv 1) (nomark _)) (pe_one (pe_callB (cr_all rfl) (by rfl) T.all bb_all (pa_cons (pe_lc (own := [("number", 2)]) (g := gName 2) (tt := tYes) rfl c_are_wholes.nd (pi_tup (pv 0)) (blkOk_by (N := n_are_wholes) (sc := defScope s_are_wholes) (by decide +kernel)) (fun _ _ _ _ _ => (pg_name (i := 2) c_are_wholes.nd rfl (by first | exact Or.inl rfl | exact Or.inr rfl))) (fun _ _ _ _ _ => pts_nil) (fun _ _ _ _ _ => (pe_own o_is_whole (hr.mono (by decide)) (by rfl) (pa_cons (pv 2) pa_nil)))) pa_nil))))))), fun ds d h => ?_⟩)
  · obtain ⟨ns, m, rfl, _⟩ := h; rfl
  · obtain ⟨ns, m, rfl, hn, rfl⟩ := h
    have hall : Ed K _ (sEnv n_are_wholes [.tuple (iv ns), .int m]) (.bool true) := ed_cb (K := K) (ea_cons (ed_lcT (K := K) (vs := [2]) (g := gName 2) (fun _ => .bool true) (ed_var (i := 0)) (by simp; omega) (fun d hd => by
        obtain ⟨n, _, rfl⟩ := List.mem_map.mp hd
        exact ⟨_, gd_in (by decide), ed_call (R := R_is_whole) (E := E0) (ea_cons (ed_var (i := 2)) ea_nil) ⟨n, rfl, rfl⟩⟩)) ea_nil) (by
        have e : (iv ns).map (fun _ => PyData.bool true) = (ns.map fun _ => true).map PyData.bool := by simp
        rw [e]
        have z := bc_all (K := K) (bs := ns.map fun _ => true)
        have e2 : (ns.map fun _ => true).all id = true := by simp
        rw [e2] at z
        exact z)
    refine st_ret (Ed.is (ed_andV (p := true) (q := decide ((ns.length : Int) = m) && true) (ed_isi ed_var (.tup _) (by decide +kernel)) fun _ => ed_andV (ed_eqI (ed_lenT ed_var (by rw [iv, List.length_map])) ed_var) fun _ => hall) (by simp))
theorem ok_common_divisor (D : DefOk K mg "common_divisor" s_common_divisor p_common_divisor)  : OkF P w K mg base 1 "common_divisor" s_common_divisor p_common_divisor (spD K R_common_divisor) := by
  refine ok_of D c_common_divisor (fun ds d h => ?_) (fun cdv A outer s H0 E hr => ⟨_, (pss_cons (ps_set (i := 1) c_common_divisor.nd rfl (by first | exact Or.inl rfl | exact Or.inr rfl) pe_int)
    (pss_cons (ps_for PassesOwn.never rfl (pi_tup (pv 0)) (pg_name (i := 2) c_common_divisor.nd rfl (by first | exact Or.inl rfl | exact Or.inr rfl)) (pss_one (ps_set (i := 1) c_common_divisor.nd rfl (by first | exact Or.inl rfl | exact Or.inr rfl) (pe_callBfun cr_gcd (by rfl) T.gcd (pa_cons (pv 1) (pa_cons (pv 2) pa_nil))))))
    (pss_one (ps_ret (pv 1))))), fun ds d h => ?_⟩)
  · obtain ⟨n, rfl, _⟩ := h; rfl
  · obtain ⟨ns, rfl, rfl⟩ := h
    refine st_seq (sn_asg ed_int) (st_seq (sn_forT (ds := iv ns) (fun i => [some (.tuple (iv ns)), some (.int (cdiv (ns.take i))), none]) ed_var ⟨rfl, fun i d q => ?_⟩ fun i d hi => ?_) (st_ret ?_))
    · match i, q with
      | 0, q => exact q
      | 1, q => exact q
      | 2, q => cases q
    · rw [List.getElem?_map] at hi
      cases e : ns[i]? with
      | none => rw [e] at hi; cases hi
      | some n =>
        rw [e] at hi
        cases hi
        refine ⟨_, gn_name, ?_⟩
        refine sn_le (sn_asg (ed_cb (ea_cons (ed_var (i := 1)) (ea_cons (ed_var (i := 2)) ea_nil)) bc_gcd)) ⟨rfl, fun j d q => ?_⟩
        have e2 : cdiv (ns.take (i + 1)) = ((Nat.gcd (cdiv (ns.take i)).natAbs n.natAbs : Nat) : Int) := by
          rw [List.take_add_one, e]
          unfold cdiv
          rw [List.foldl_append]
          rfl
        match j, q with
        | 0, q => exact q
        | 1, q => rw [e2] at q; exact q
        | 2, q => cases q
    · have e : ns.take (iv ns).length = ns := by rw [List.length_map, List.take_length]
      rw [e]
      exact ed_var
theorem ok_lowest (D : DefOk K mg "lowest" s_lowest p_lowest) (o_common_divisor : OkF P w K mg base 1 "common_divisor" s_common_divisor p_common_divisor (spD K R_common_divisor)) : OkF P w K mg base 2 "lowest" s_lowest p_lowest (spD K R_lowest) := by
  refine ok_of D c_lowest (fun ds d h => ?_) (fun cdv A outer s H0 E hr => ⟨_, (pss_cons (ps_set (i := 1) c_lowest.nd rfl (by first | exact Or.inl rfl | exact Or.inr rfl) (pe_own o_common_divisor (hr.mono (by decide)) (by rfl) (pa_cons (pv 0) pa_nil)))
    (pss_one (ps_ret (pe_callTy call_tuple_of (by rfl) T.tuple bb_tuple (pa_cons (pe_lc (own := [("number", 2)]) (g := gName 2) (tt := tYes) rfl c_lowest.nd (pi_tup (pv 0)) (blkOk_by (N := n_lowest) (sc := defScope s_lowest) (by decide +kernel)) (fun _ _ _ _ _ => (pg_name (i := 2) c_lowest.nd rfl (by first | exact Or.inl rfl | exact Or.inr rfl))) (fun _ _ _ _ _ => pts_nil) (fun _ _ _ _ _ => (pe_op op_fdiv (pv 2) (pv 1)))) pa_nil))))), fun ds d h => ?_⟩)
  · obtain ⟨n, rfl, _⟩ := h; rfl
  · obtain ⟨ns, rfl, hn, hc, rfl⟩ := h
    refine st_seq (sn_asg (ed_call (ea_cons ed_var ea_nil) ⟨ns, rfl, rfl⟩)) (st_ret (Ed.is (ed_cb (ea_cons (ed_lcT (fun d => match d with | .int n => .int (n / cdiv ns) | d => d) (ed_var (i := 0)) (by simp; omega) (fun d hd => ?_)) ea_nil) bc_tuple) ?_))
    · obtain ⟨n, _, rfl⟩ := List.mem_map.mp hd
      exact ⟨_, gd_in (by decide), ed_fdiv (ed_var (i := 2)) (ed_var (i := 1)) hc⟩
    · rw [lowst, List.map_map, iv, List.map_map]; rfl
theorem ok_is_lowest (D : DefOk K mg "is_lowest" s_is_lowest p_is_lowest) (o_common_divisor : OkF P w K mg base 1 "common_divisor" s_common_divisor p_common_divisor (spD K R_common_divisor)) : OkF P w K mg base 2 "is_lowest" s_is_lowest p_is_lowest (spD K R_is_lowest) := by
  refine ok_of D c_is_lowest (fun ds d h => ?_) (fun cdv A outer s H0 E hr => ⟨_, (pss_one (ps_ret (pe_cmpR op_eq (pe_own o_common_divisor (hr.mono (by decide)) (by rfl) (pa_cons (pv 0) pa_nil)) pe_int (nomark _)))), fun ds d h => ?_⟩)
  · obtain ⟨n, rfl, _⟩ := h; rfl
  · obtain ⟨ns, rfl, rfl⟩ := h
    exact st_ret (ed_eqI (ed_call (ea_cons ed_var ea_nil) ⟨ns, rfl, rfl⟩) ed_int)
end
end Wf
set_option Elab.async false
set_option linter.all false
set_option maxRecDepth 100000
set_option maxHeartbeats 2000000
/-! the defs of ratios, vectors, the small ones of shapes -/
namespace Wf
open PySem PySem.Spec PyProof.Rows L2
local macro_rules | `(tactic| walk_at "mul") => `(tactic| ((try dsimp only); first | exact Or.inl (by omega) | exact Or.inr (by omega)))
local macro_rules | `(tactic| walk_at "ed") => `(tactic| first
  | exact ed_var
  | exact ed_int
  | exact ed_bl
  | exact ed_str
  | (apply ed_add <;> walk_at "ed")
  | (apply ed_sub <;> walk_at "ed")
  | (apply ed_mul <;> first | walk_at "ed" | walk_at "mul")
  | (apply ed_neg <;> walk_at "ed")
  | (apply ed_ixT <;> first | walk_at "ed" | rfl)
  | (apply ed_lt <;> walk_at "ed")
  | (apply ed_le <;> walk_at "ed")
  | (apply ed_gt <;> walk_at "ed")
  | (apply ed_ge <;> walk_at "ed")
  | (apply ed_eqI <;> walk_at "ed")
  | (apply ed_tup <;> first | walk_at "ea" | exact Nat.le_of_ble_eq_true rfl))
local macro_rules | `(tactic| walk_at "ea") => `(tactic| first
  | exact ea_nil
  | (apply ea_cons <;> first | walk_at "ed" | walk_at "ea"))
abbrev d2 (a b : Int) : PyData := .tuple [.int a, .int b]
abbrev d3 (a b c : Int) : PyData := .tuple [.int a, .int b, .int c]
abbrev dq (q : Int × Int) : PyData := d2 q.1 q.2
abbrev P3 := Int × Int × Int
abbrev dp (p : P3) : PyData := d3 p.1 p.2.1 p.2.2
def red (o u : Int) : Int × Int := (o / cdiv [o, u], u / cdiv [o, u])
def red3 (a b c : Int) : P3 := (a / cdiv [a, b, c], b / cdiv [a, b, c], c / cdiv [a, b, c])
theorem cdiv2 (o u : Int) : cdiv [o, u] = ((Nat.gcd o.natAbs u.natAbs : Nat) : Int) := by simp [cdiv]
theorem cdiv3 (a b c : Int) : cdiv [a, b, c] = ((Nat.gcd (Nat.gcd a.natAbs b.natAbs) c.natAbs : Nat) : Int) := by simp [cdiv]
theorem gcd_r {a b : Nat} (h : 0 < b) : 0 < Nat.gcd a b ∧ Nat.gcd a b ≤ b := ⟨Nat.gcd_pos_of_pos_right _ h, Nat.le_of_dvd h (Nat.gcd_dvd_right _ _)⟩
theorem cd_pos {o u : Int} (h : 0 < u) : 0 < cdiv [o, u] ∧ cdiv [o, u] ≤ u := by
  rw [cdiv2]
  have := gcd_r (a := o.natAbs) (b := u.natAbs) (by omega)
  omega
theorem cd_ok {o u : Int} (h : 0 < u) (h2 : u < 1073741824) : CDiv 0 (cdiv [o, u]) := by
  have := cd_pos (o := o) h
  exact ⟨this.1, by omega⟩
theorem cd3_pos {a b c : Int} (h : 0 < c) : 0 < cdiv [a, b, c] ∧ cdiv [a, b, c] ≤ c := by
  rw [cdiv3]
  have := gcd_r (a := Nat.gcd a.natAbs b.natAbs) (b := c.natAbs) (by omega)
  omega
def lowerQ (p q : Int × Int) : Bool := decide (p.1 * q.2 < q.1 * p.2)
def al (n : Int × Int) (p : P3) : Int × Int := red (n.1 * p.1 + n.2 * p.2.1) p.2.2
def stp (p q : P3) : Int × Int := (q.1 * p.2.2 - p.1 * q.2.2, q.2.1 * p.2.2 - p.2.1 * q.2.2)
def sdAt (n : Int × Int) (p : P3) : P3 := red3 (n.1 * p.2.2) (n.2 * p.2.2) (n.1 * p.1 + n.2 * p.2.1)
def sdL (p q : P3) : P3 := sdAt ((stp p q).2, -(stp p q).1) p
/-- what may be divided -/
def SdOk (n : Int × Int) (p : P3) : Prop := CDiv 0 (cdiv [n.1 * p.2.2, n.2 * p.2.2, n.1 * p.1 + n.2 * p.2.1])
def valAt (s p : P3) : Int := s.1 * p.1 + s.2.1 * p.2.1 - s.2.2 * p.2.2
/-- a small point -/
structure Sp3 (p : P3) : Prop where
  x : -1048576 < p.1 ∧ p.1 < 1048576
  y : -1048576 < p.2.1 ∧ p.2.1 < 1048576
  w : 0 < p.2.2 ∧ p.2.2 < 1024
def R_ratio (ds : List PyData) (d : PyData) : Prop := ∃ o u : Int, ds = [.int o, .int u] ∧ 0 < u ∧ u < 1073741824 ∧ d = dq (red o u)
def R_ratio_product (ds : List PyData) (d : PyData) : Prop := ∃ p q : Int × Int, ds = [dq p, dq q] ∧ (-(2 ^ 64) < p.1 ∧ p.1 < 2 ^ 64) ∧ (0 < p.2 ∧ p.2 < 32768) ∧ (0 < q.2 ∧ q.2 < 32768) ∧ d = dq (red (p.1 * q.1) (p.2 * q.2))
def R_is_lower (ds : List PyData) (d : PyData) : Prop := ∃ p q : Int × Int, ds = [dq p, dq q] ∧ (0 < p.2 ∧ p.2 < 1073741824) ∧ (0 < q.2 ∧ q.2 < 1073741824) ∧ d = .bool (lowerQ p q)
def R_is_vector (ds : List PyData) (d : PyData) : Prop := ∃ p : P3, ds = [dp p] ∧ d = .bool (decide (0 < p.2.2) && decide (cdiv [p.1, p.2.1, p.2.2] = 1))
def R_step_between (ds : List PyData) (d : PyData) : Prop := ∃ p q : P3, ds = [dp p, dp q] ∧ Sp3 p ∧ Sp3 q ∧ d = dq (stp p q)
def R_along (ds : List PyData) (d : PyData) : Prop := ∃ (n : Int × Int) (p : P3), ds = [dq n, dp p] ∧ Sp3 p ∧ d = dq (al n p)
def R_is_pointing (ds : List PyData) (d : PyData) : Prop := ∃ p : Int × Int, ds = [dq p] ∧ d = .bool (decide (cdiv [p.1, p.2] = 1))
def R_is_border (ds : List PyData) (d : PyData) : Prop := ∃ p : P3, ds = [dp p] ∧ d = .bool (!(decide (p.1 = 0) && decide (p.2.1 = 0)) && decide (cdiv [p.1, p.2.1, p.2.2] = 1))
def R_side_at (ds : List PyData) (d : PyData) : Prop := ∃ (n : Int × Int) (p : P3), ds = [dq n, dp p] ∧ Sp3 p ∧ SdOk n p ∧ d = dp (sdAt n p)
def R_side_left (ds : List PyData) (d : PyData) : Prop := ∃ p q : P3, ds = [dp p, dp q] ∧ Sp3 p ∧ Sp3 q ∧ SdOk ((stp p q).2, -(stp p q).1) p ∧ d = dp (sdL p q)
def R_value_at (ds : List PyData) (d : PyData) : Prop := ∃ s p : P3, ds = [dp s, dp p] ∧ Sp3 p ∧ d = .int (valAt s p)
def R_are_held (ds : List PyData) (d : PyData) : Prop := ∃ (ss : List P3) (p : P3), ds = [.tuple (ss.map dp), dp p] ∧ ss.length ≤ 1000 ∧ Sp3 p ∧ d = .bool (ss.all fun s => decide (valAt s p ≤ 0))
def lft (a b c : Int × Int) : Bool := decide ((b.2 - a.2) * (c.1 - a.1) < (b.1 - a.1) * (c.2 - a.2))
abbrev Sm2 (p : Int × Int) : Prop := (-1048576 < p.1 ∧ p.1 < 1048576) ∧ (-1048576 < p.2 ∧ p.2 < 1048576)
def R_is_left (ds : List PyData) (d : PyData) : Prop := ∃ a b c : Int × Int, ds = [dq a, dq b, dq c] ∧ Sm2 a ∧ Sm2 b ∧ Sm2 c ∧ d = .bool (lft a b c)
/-- the corner behind -/
def nxt (ps : List P3) (i : Nat) : P3 := if i + 1 < ps.length then ps.getD (i + 1) (0, 0, 0) else ps.getD 0 (0, 0, 0)
def R_next_corner (ds : List PyData) (d : PyData) : Prop := ∃ (ps : List P3) (i : Nat), ds = [.tuple (ps.map dp), .int i] ∧ i < ps.length ∧ d = dp (nxt ps i)
theorem at_map {α : Type} {f : α → PyData} {ps : List α} {j : Nat} {p : α} (h : ps[j]? = some p) : atI (ps.map f) (j : Int) = some (f p) := atI_nat (by rw [List.getElem?_map, h]; rfl)
section
variable {P : Program} {w : World} {K : PySem.W.Frag} {mg : Str → Option Value} {base : Heap} (T : Blt K mg)
include T
theorem ok_ratio (D : DefOk K mg "ratio" s_ratio p_ratio) (o_lowest : OkF P w K mg base 2 "lowest" s_lowest p_lowest (spD K R_lowest)) : OkF P w K mg base 3 "ratio" s_ratio p_ratio (spD K R_ratio) := by
  refine ok_of D c_ratio (fun ds d h => ?_) (fun cdv A outer s H0 E hr => ⟨_, (pss_one (ps_ret (pe_ifExp (pt_cmpR op_gt (pv 1) pe_int (nomark _)) (pe_own o_lowest (hr.mono (by decide)) (by rfl) (pa_cons (pe_tup (pa_cons (pv 0) (pa_cons (pv 1) pa_nil))) pa_nil)) (pe_own o_lowest (hr.mono (by decide)) (by rfl) (pa_cons (pe_tup (pa_cons (pe_un un_neg (pv 0)) (pa_cons (pe_un un_neg (pv 1)) pa_nil))) pa_nil))))), fun ds d h => ?_⟩)
  · obtain ⟨o, u, rfl, _⟩ := h; rfl
  · obtain ⟨o, u, rfl, h1, h2, rfl⟩ := h
    refine st_ret (ed_if (p := true) (Et.is (et_test (ed_gt ed_var ed_int)) (decide_eq_true h1)) (fun _ => ?_) (fun z => nomatch z))
    exact ed_call (ea_cons (ed_tup (ea_cons ed_var (ea_cons ed_var ea_nil)) (by show (2 : Nat) ≤ _; decide)) ea_nil) ⟨[o, u], rfl, by simp, cd_ok h1 h2, rfl⟩
theorem ok_ratio_product (D : DefOk K mg "ratio_product" s_ratio_product p_ratio_product) (o_ratio : OkF P w K mg base 3 "ratio" s_ratio p_ratio (spD K R_ratio)) : OkF P w K mg base 4 "ratio_product" s_ratio_product p_ratio_product (spD K R_ratio_product) := by
  refine ok_of D c_ratio_product (fun ds d h => ?_) (fun cdv A outer s H0 E hr => ⟨_, (pss_one (ps_ret (pe_own o_ratio (hr.mono (by decide)) (by rfl) (pa_cons (pe_op op_mul (pe_ix ix_tup (pv 0) pe_int (fun _ _ => rfl)) (pe_ix ix_tup (pv 1) pe_int (fun _ _ => rfl))) (pa_cons (pe_op op_mul (pe_ix ix_tup (pv 0) pe_int (fun _ _ => rfl)) (pe_ix ix_tup (pv 1) pe_int (fun _ _ => rfl))) pa_nil))))), fun ds d h => ?_⟩)
  · obtain ⟨o, u, rfl, _⟩ := h; rfl
  · obtain ⟨⟨a, b⟩, ⟨c, e⟩, rfl, h1, h2, h3, rfl⟩ := h
    simp only at h1 h2 h3
    have hb : 0 < b * e := Int.mul_pos h2.1 h3.1
    have hb2 : b * e < 1073741824 := by
      have h4 : b * e ≤ 32767 * e := Int.mul_le_mul_of_nonneg_right (by omega) (by omega)
      omega
    exact st_ret (ed_call (by walk_at "ea") ⟨a * c, b * e, rfl, hb, hb2, rfl⟩)
theorem ok_is_lower (D : DefOk K mg "is_lower" s_is_lower p_is_lower)  : OkF P w K mg base 1 "is_lower" s_is_lower p_is_lower (spD K R_is_lower) := by
  refine ok_of D c_is_lower (fun ds d h => ?_) (fun cdv A outer s H0 E hr => ⟨_, (pss_one (ps_ret (pe_cmpR op_lt (pe_op op_mul (pe_ix ix_tup (pv 0) pe_int (fun _ _ => rfl)) (pe_ix ix_tup (pv 1) pe_int (fun _ _ => rfl))) (pe_op op_mul (pe_ix ix_tup (pv 1) pe_int (fun _ _ => rfl)) (pe_ix ix_tup (pv 0) pe_int (fun _ _ => rfl))) (nomark _)))), fun ds d h => ?_⟩)
  · obtain ⟨o, u, rfl, _⟩ := h; rfl
  · obtain ⟨⟨a, b⟩, ⟨c, e⟩, rfl, h2, h3, rfl⟩ := h
    simp only at h2 h3
    exact st_ret (by walk_at "ed")
theorem ok_is_vector (D : DefOk K mg "is_vector" s_is_vector p_is_vector) (o_is_lowest : OkF P w K mg base 2 "is_lowest" s_is_lowest p_is_lowest (spD K R_is_lowest)) (o_are_wholes : OkF P w K mg base 2 "are_wholes" s_are_wholes p_are_wholes (spD K R_are_wholes)) : OkF P w K mg base 3 "is_vector" s_is_vector p_is_vector (spD K R_is_vector) := by
  refine ok_of D c_is_vector (fun ds d h => ?_) (fun cdv A outer s H0 E hr => ⟨_, (pss_one (ps_ret (pe_and (pe_own o_are_wholes (hr.mono (by decide)) (by rfl) (pa_cons (pv 0) (pa_cons pe_int pa_nil))) (pe_and (pe_cmpR op_gt (pe_ix ix_tup (pv 0) pe_int (fun _ _ => rfl)) pe_int (nomark _)) (pe_one (pe_own o_is_lowest (hr.mono (by decide)) (by rfl) (pa_cons (pv 0) pa_nil))))))), fun ds d h => ?_⟩)
  · obtain ⟨o, rfl, _⟩ := h; rfl
  · obtain ⟨⟨x, y, z⟩, rfl, rfl⟩ := h
    refine st_ret (Ed.is (ed_andV (p := true) (ed_call (by walk_at "ea") ⟨[x, y, z], 3, rfl, by simp, rfl⟩) fun _ => ed_andV (by walk_at "ed") fun _ => ed_call (by walk_at "ea") ⟨[x, y, z], rfl, rfl⟩) (by simp))
theorem ok_step_between (D : DefOk K mg "step_between" s_step_between p_step_between)  : OkF P w K mg base 1 "step_between" s_step_between p_step_between (spD K R_step_between) := by
  refine ok_of D c_step_between (fun ds d h => ?_) (fun cdv A outer s H0 E hr => ⟨_, (pss_one (ps_ret (pe_tup (pa_cons (pe_op op_sub (pe_op op_mul (pe_ix ix_tup (pv 1) pe_int (fun _ _ => rfl)) (pe_ix ix_tup (pv 0) pe_int (fun _ _ => rfl))) (pe_op op_mul (pe_ix ix_tup (pv 0) pe_int (fun _ _ => rfl)) (pe_ix ix_tup (pv 1) pe_int (fun _ _ => rfl)))) (pa_cons (pe_op op_sub (pe_op op_mul (pe_ix ix_tup (pv 1) pe_int (fun _ _ => rfl)) (pe_ix ix_tup (pv 0) pe_int (fun _ _ => rfl))) (pe_op op_mul (pe_ix ix_tup (pv 0) pe_int (fun _ _ => rfl)) (pe_ix ix_tup (pv 1) pe_int (fun _ _ => rfl)))) pa_nil))))), fun ds d h => ?_⟩)
  · obtain ⟨o, u, rfl, _⟩ := h; rfl
  · obtain ⟨⟨a, b, c⟩, ⟨x, y, z⟩, rfl, ⟨h1, h2, h3⟩, ⟨h4, h5, h6⟩, rfl⟩ := h
    simp only at h1 h2 h3 h4 h5 h6
    apply st_ret
    apply Ed.is
    · walk_at "ed"
    · rfl
theorem ok_along (D : DefOk K mg "along" s_along p_along) (o_ratio : OkF P w K mg base 3 "ratio" s_ratio p_ratio (spD K R_ratio)) : OkF P w K mg base 4 "along" s_along p_along (spD K R_along) := by
  refine ok_of D c_along (fun ds d h => ?_) (fun cdv A outer s H0 E hr => ⟨_, (pss_one (ps_ret (pe_own o_ratio (hr.mono (by decide)) (by rfl) (pa_cons (pe_op op_add (pe_op op_mul (pe_ix ix_tup (pv 0) pe_int (fun _ _ => rfl)) (pe_ix ix_tup (pv 1) pe_int (fun _ _ => rfl))) (pe_op op_mul (pe_ix ix_tup (pv 0) pe_int (fun _ _ => rfl)) (pe_ix ix_tup (pv 1) pe_int (fun _ _ => rfl)))) (pa_cons (pe_ix ix_tup (pv 1) pe_int (fun _ _ => rfl)) pa_nil))))), fun ds d h => ?_⟩)
  · obtain ⟨o, u, rfl, _⟩ := h; rfl
  · obtain ⟨⟨a, b⟩, ⟨x, y, z⟩, rfl, ⟨h4, h5, h6⟩, rfl⟩ := h
    simp only at h4 h5 h6
    apply st_ret
    apply ed_call
    · walk_at "ea"
    · exact ⟨_, _, rfl, h6.1, by dsimp only; omega, rfl⟩
theorem ok_is_pointing (D : DefOk K mg "is_pointing" s_is_pointing p_is_pointing) (o_is_lowest : OkF P w K mg base 2 "is_lowest" s_is_lowest p_is_lowest (spD K R_is_lowest)) (o_are_wholes : OkF P w K mg base 2 "are_wholes" s_are_wholes p_are_wholes (spD K R_are_wholes)) : OkF P w K mg base 3 "is_pointing" s_is_pointing p_is_pointing (spD K R_is_pointing) := by
  refine ok_of D c_is_pointing (fun ds d h => ?_) (fun cdv A outer s H0 E hr => ⟨_, (pss_one (ps_ret (pe_and (pe_own o_are_wholes (hr.mono (by decide)) (by rfl) (pa_cons (pv 0) (pa_cons pe_int pa_nil))) (pe_one (pe_own o_is_lowest (hr.mono (by decide)) (by rfl) (pa_cons (pv 0) pa_nil)))))), fun ds d h => ?_⟩)
  · obtain ⟨o, rfl, _⟩ := h; rfl
  · obtain ⟨⟨a, b⟩, rfl, rfl⟩ := h
    exact st_ret (Ed.is (ed_andV (p := true) (ed_call (by walk_at "ea") ⟨[a, b], 2, rfl, by simp, rfl⟩) fun _ => ed_call (by walk_at "ea") ⟨[a, b], rfl, rfl⟩) (by simp))
theorem ok_is_border (D : DefOk K mg "is_border" s_is_border p_is_border) (o_is_lowest : OkF P w K mg base 2 "is_lowest" s_is_lowest p_is_lowest (spD K R_is_lowest)) (o_are_wholes : OkF P w K mg base 2 "are_wholes" s_are_wholes p_are_wholes (spD K R_are_wholes)) : OkF P w K mg base 3 "is_border" s_is_border p_is_border (spD K R_is_border) := by
  refine ok_of D c_is_border (fun ds d h => ?_) (fun cdv A outer s H0 E hr => ⟨_, (pss_one (ps_ret (pe_and (pe_own o_are_wholes (hr.mono (by decide)) (by rfl) (pa_cons (pv 0) (pa_cons pe_int pa_nil))) (pe_and (pe_not (pe_and (pe_cmpR op_eq (pe_ix ix_tup (pv 0) pe_int (fun _ _ => rfl)) pe_int (nomark _)) (pe_one (pe_cmpR op_eq (pe_ix ix_tup (pv 0) pe_int (fun _ _ => rfl)) pe_int (nomark _))))) (pe_one (pe_own o_is_lowest (hr.mono (by decide)) (by rfl) (pa_cons (pv 0) pa_nil))))))), fun ds d h => ?_⟩)
  · obtain ⟨o, rfl, _⟩ := h; rfl
  · obtain ⟨⟨x, y, z⟩, rfl, rfl⟩ := h
    refine st_ret (Ed.is (ed_andV (p := true) (ed_call (by walk_at "ea") ⟨[x, y, z], 3, rfl, by simp, rfl⟩) fun _ => ed_andV (ed_notV (ed_andV (by walk_at "ed") fun _ => by walk_at "ed")) fun _ => ed_call (by walk_at "ea") ⟨[x, y, z], rfl, rfl⟩) (by simp))
theorem ok_side_at (D : DefOk K mg "side_at" s_side_at p_side_at) (o_lowest : OkF P w K mg base 2 "lowest" s_lowest p_lowest (spD K R_lowest)) : OkF P w K mg base 3 "side_at" s_side_at p_side_at (spD K R_side_at) := by
  refine ok_of D c_side_at (fun ds d h => ?_) (fun cdv A outer s H0 E hr => ⟨_, (pss_cons (ps_asg (pv 0) (pg_tup rfl (pgs_cons (pg_name (i := 2) c_side_at.nd rfl (by first | exact Or.inl rfl | exact Or.inr rfl)) (pgs_cons (pg_name (i := 3) c_side_at.nd rfl (by first | exact Or.inl rfl | exact Or.inr rfl)) pgs_nil))))
    (pss_cons (ps_asg (pv 1) (pg_tup rfl (pgs_cons (pg_name (i := 4) c_side_at.nd rfl (by first | exact Or.inl rfl | exact Or.inr rfl)) (pgs_cons (pg_name (i := 5) c_side_at.nd rfl (by first | exact Or.inl rfl | exact Or.inr rfl)) (pgs_cons (pg_name (i := 6) c_side_at.nd rfl (by first | exact Or.inl rfl | exact Or.inr rfl)) pgs_nil)))))
    (pss_one (ps_ret (pe_own o_lowest (hr.mono (by decide)) (by rfl) (pa_cons (pe_tup (pa_cons (pe_op op_mul (pv 2) (pv 6)) (pa_cons (pe_op op_mul (pv 3) (pv 6)) (pa_cons (pe_op op_add (pe_op op_mul (pv 2) (pv 4)) (pe_op op_mul (pv 3) (pv 5))) pa_nil)))) pa_nil)))))), fun ds d h => ?_⟩)
  · obtain ⟨o, u, rfl, _⟩ := h; rfl
  · obtain ⟨⟨a, b⟩, ⟨x, y, z⟩, rfl, ⟨h4, h5, h6⟩, hc, rfl⟩ := h
    simp only at h4 h5 h6
    refine st_seq (sn_asgG ed_var (gn_tup (gsn_cons gn_name (gsn_cons gn_name gsn_nil)))) (st_seq (sn_asgG ed_var (gn_tup (gsn_cons gn_name (gsn_cons gn_name (gsn_cons gn_name gsn_nil))))) ?_)
    apply st_ret
    apply ed_call
    · walk_at "ea"
    · exact ⟨[a * z, b * z, a * x + b * y], rfl, by simp, hc, rfl⟩
theorem ok_side_left (D : DefOk K mg "side_left" s_side_left p_side_left) (o_side_at : OkF P w K mg base 3 "side_at" s_side_at p_side_at (spD K R_side_at)) (o_step_between : OkF P w K mg base 1 "step_between" s_step_between p_step_between (spD K R_step_between)) : OkF P w K mg base 4 "side_left" s_side_left p_side_left (spD K R_side_left) := by
  refine ok_of D c_side_left (fun ds d h => ?_) (fun cdv A outer s H0 E hr => ⟨_, (pss_cons (ps_asg (pe_own o_step_between (hr.mono (by decide)) (by rfl) (pa_cons (pv 0) (pa_cons (pv 1) pa_nil))) (pg_tup rfl (pgs_cons (pg_name (i := 2) c_side_left.nd rfl (by first | exact Or.inl rfl | exact Or.inr rfl)) (pgs_cons (pg_name (i := 3) c_side_left.nd rfl (by first | exact Or.inl rfl | exact Or.inr rfl)) pgs_nil))))
    (pss_one (ps_ret (pe_own o_side_at (hr.mono (by decide)) (by rfl) (pa_cons (pe_tup (pa_cons (pv 3) (pa_cons (pe_un un_neg (pv 2)) pa_nil))) (pa_cons (pv 0) pa_nil)))))), fun ds d h => ?_⟩)
  · obtain ⟨o, u, rfl, _⟩ := h; rfl
  · obtain ⟨p, q, rfl, h1, h2, hc, rfl⟩ := h
    refine st_seq (sn_asgG (ed_call (by walk_at "ea") ⟨p, q, rfl, h1, h2, rfl⟩) (gn_tup (gsn_cons gn_name (gsn_cons gn_name gsn_nil)))) ?_
    apply st_ret
    apply ed_call
    · walk_at "ea"
    · exact ⟨((stp p q).2, -(stp p q).1), p, rfl, h1, hc, rfl⟩
theorem ok_value_at (D : DefOk K mg "value_at" s_value_at p_value_at)  : OkF P w K mg base 1 "value_at" s_value_at p_value_at (spD K R_value_at) := by
  refine ok_of D c_value_at (fun ds d h => ?_) (fun cdv A outer s H0 E hr => ⟨_, (pss_one (ps_ret (pe_op op_sub (pe_op op_add (pe_op op_mul (pe_ix ix_tup (pv 0) pe_int (fun _ _ => rfl)) (pe_ix ix_tup (pv 1) pe_int (fun _ _ => rfl))) (pe_op op_mul (pe_ix ix_tup (pv 0) pe_int (fun _ _ => rfl)) (pe_ix ix_tup (pv 1) pe_int (fun _ _ => rfl)))) (pe_op op_mul (pe_ix ix_tup (pv 0) pe_int (fun _ _ => rfl)) (pe_ix ix_tup (pv 1) pe_int (fun _ _ => rfl)))))), fun ds d h => ?_⟩)
  · obtain ⟨o, u, rfl, _⟩ := h; rfl
  · obtain ⟨⟨a, b, c⟩, ⟨x, y, z⟩, rfl, ⟨h4, h5, h6⟩, rfl⟩ := h
    simp only at h4 h5 h6
    apply st_ret
    apply Ed.is
    · walk_at "ed"
    · rfl
theorem ok_are_held (D : DefOk K mg "are_held" s_are_held p_are_held) (o_value_at : OkF P w K mg base 1 "value_at" s_value_at p_value_at (spD K R_value_at)) : OkF P w K mg base 2 "are_held" s_are_held p_are_held (spD K R_are_held) := by
  refine ok_of D c_are_held (fun ds d h => ?_) (fun cdv A outer s H0 E hr => ⟨_, (pss_one (ps_ret (pe_callB (cr_all rfl) (by rfl) T.all bb_all (pa_cons (pe_lc (own := [("side", 2)]) (g := gName 2) (tt := tYes) rfl c_are_held.nd (pi_tup (pv 0)) (blkOk_by (N := n_are_held) (sc := defScope s_are_held) (by decide +kernel)) (fun _ _ _ _ _ => (pg_name (i := 2) c_are_held.nd rfl (by first | exact Or.inl rfl | exact Or.inr rfl))) (fun _ _ _ _ _ => pts_nil) (fun _ _ _ _ _ => (pe_cmpR op_le (pe_own o_value_at (hr.mono (by decide)) (by rfl) (pa_cons (pv 2) (pa_cons (pv 1) pa_nil))) pe_int (nomark _)))) pa_nil)))), fun ds d h => ?_⟩)
  · obtain ⟨o, u, rfl, _⟩ := h; rfl
  · obtain ⟨ss, p, rfl, hn, hp, rfl⟩ := h
    have e : (ss.map dp).map (fun d => match d with | .tuple [.int a, .int b, .int c] => PyData.bool (decide (valAt (a, b, c) p ≤ 0)) | d => d) = (ss.map fun s => decide (valAt s p ≤ 0)).map PyData.bool := by
      rw [List.map_map, List.map_map]; rfl
    have z := bc_all (K := K) (bs := ss.map fun s => decide (valAt s p ≤ 0))
    rw [← e] at z
    refine st_ret (Ed.is (ed_cb (ea_cons (ed_lcT _ (ed_var (i := 0)) (by rw [List.length_map]; omega) (fun d hd => ?_)) ea_nil) z) (by rw [List.all_map]; rfl))
    obtain ⟨s, _, rfl⟩ := List.mem_map.mp hd
    exact ⟨_, gd_in (by decide), ed_le (ed_call (by walk_at "ea") ⟨s, p, rfl, hp, rfl⟩) ed_int⟩
theorem ok_is_left (D : DefOk K mg "is_left" s_is_left p_is_left)  : OkF P w K mg base 1 "is_left" s_is_left p_is_left (spD K R_is_left) := by
  refine ok_of D c_is_left (fun ds d h => ?_) (fun cdv A outer s H0 E hr => ⟨_, (pss_one (ps_ret (pe_cmpR op_gt (pe_op op_mul (pe_op op_sub (pe_ix ix_tup (pv 1) pe_int (fun _ _ => rfl)) (pe_ix ix_tup (pv 0) pe_int (fun _ _ => rfl))) (pe_op op_sub (pe_ix ix_tup (pv 2) pe_int (fun _ _ => rfl)) (pe_ix ix_tup (pv 0) pe_int (fun _ _ => rfl)))) (pe_op op_mul (pe_op op_sub (pe_ix ix_tup (pv 1) pe_int (fun _ _ => rfl)) (pe_ix ix_tup (pv 0) pe_int (fun _ _ => rfl))) (pe_op op_sub (pe_ix ix_tup (pv 2) pe_int (fun _ _ => rfl)) (pe_ix ix_tup (pv 0) pe_int (fun _ _ => rfl)))) (nomark _)))), fun ds d h => ?_⟩)
  · obtain ⟨o, u, v, rfl, _⟩ := h; rfl
  · obtain ⟨⟨a, b⟩, ⟨c, e⟩, ⟨x, y⟩, rfl, h1, h2, h3, rfl⟩ := h
    simp only [Sm2] at h1 h2 h3
    exact st_ret (by walk_at "ed")
theorem ok_next_corner (D : DefOk K mg "next_corner" s_next_corner p_next_corner)  : OkF P w K mg base 1 "next_corner" s_next_corner p_next_corner (spD K R_next_corner) := by
  refine ok_of D c_next_corner (fun ds d h => ?_) (fun cdv A outer s H0 E hr => ⟨_, (pss_one (ps_ret (pe_ifExp (pt_cmpR op_lt (pe_op op_add (pv 1) pe_int) (pe_callB call_len_seq (by rfl) T.len bb_len (pa_cons (pv 0) pa_nil)) (nomark _)) (pe_ix ix_tup (pv 0) (pe_op op_add (pv 1) pe_int) (fun _ _ => rfl)) (pe_ix ix_tup (pv 0) pe_int (fun _ _ => rfl))))), fun ds d h => ?_⟩)
  · obtain ⟨o, u, rfl, _⟩ := h; rfl
  · obtain ⟨ps, i, rfl, hi, rfl⟩ := h
    refine st_ret (ed_if (et_test (ed_lt (ed_add ed_var ed_int) (ed_lenT ed_var rfl))) (fun h => ?_) (fun h => ?_))
    · have h' := of_decide_eq_true h
      rw [List.length_map] at h'
      have h2 : i + 1 < ps.length := by omega
      refine ed_ixT ed_var (ed_add ed_var ed_int) ?_
      unfold nxt
      rw [if_pos h2]
      have e : ((i : Int) + 1) = ((i + 1 : Nat) : Int) := by omega
      rw [e]
      exact at_map (by rw [List.getD_eq_getElem?_getD, List.getElem?_eq_getElem h2]; rfl)
    · have h' := of_decide_eq_false h
      rw [List.length_map] at h'
      have h2 : ¬ (i + 1 < ps.length) := by omega
      refine ed_ixT ed_var ed_int ?_
      unfold nxt
      rw [if_neg h2]
      have h3 : 0 < ps.length := by omega
      exact at_map (j := 0) (by rw [List.getD_eq_getElem?_getD, List.getElem?_eq_getElem h3]; rfl)
end
end Wf
set_option Elab.async false
set_option linter.all false
set_option maxRecDepth 100000
set_option maxHeartbeats 2000000
/-! a list of the def's own, grown and cut; the two chains -/
namespace Wf
open PySem PySem.Spec PyProof.Rows L2
def OwnS (K : PySem.W.Frag) (G1 H1 : Hp) (l : Addr) (m : Nat) (es : List (Option PyData)) (ds : List PyData) (σ : L2.St) (H : Hp) : Prop :=
  ∃ G' xs, Nw (some l) G1 (upd H1 l (.lst [])) G' H ∧ H l = some (.lst xs) ∧ DpAll K G' xs ds ∧ En K G' σ es ∧ σ[m]? = some (some (.ref l))
section
variable {K : PySem.W.Frag} {G1 H1 H H' : Hp} {l : Addr} {m : Nat} {es : List (Option PyData)} {ds : List PyData} {σ : L2.St} {d : PyData}
theorem own_start (hs : Same G1 H1) (hl : H1 l = none) (hE : En K G1 σ es) (hm : m < es.length) : OwnS K G1 H1 l m (es.set m none) [] (σ.set m (some (.ref l))) (upd H1 l (.lst [])) :=
  ⟨G1, [], Nw.refl (Nw.open hs hl), upd_same, .nil, hE.setNone m _, by rw [List.getElem?_set_self (by rw [hE.1]; exact hm)]⟩
theorem own_free (hs : Same G1 H1) (hl : H1 l = none) {G' : Hp} (n : Nw (some l) G1 (upd H1 l (.lst [])) G' H) : G' l = none := n.f l (by rw [upd_same]; exact fun z => nomatch z) (hs.free hl)
theorem own_read (hs : Same G1 H1) (hl : H1 l = none) (o : OwnS K G1 H1 l m es ds σ H) (hm : m < es.length) : ∃ Gp, Same Gp H ∧ En K Gp σ (es.set m (some (.list ds))) := by
  obtain ⟨G', xs, n, h, ha, hE, hσ⟩ := o
  have g := own_free hs hl n
  refine ⟨upd G' l (.lst xs), fun b u e => ?_, by rw [List.length_set]; exact hE.1, fun i d e => ?_⟩
  · by_cases hb : b = l
    · subst hb; rw [upd_same] at e; cases e; exact h
    · rw [upd_ne hb] at e; exact n.s b u e
  · by_cases hi : m = i
    · subst hi
      rw [List.getElem?_set_self hm] at e
      have e' : PyData.list ds = d := Option.some.inj (Option.some.inj e)
      subst e'
      exact ⟨_, hσ, .lst (SqL.of upd_same) (dpsm ha (same_new g))⟩
    · rw [List.getElem?_set_ne hi] at e
      obtain ⟨v, h1, h2⟩ := hE.2 i d e
      exact ⟨v, h1, dpm h2 (same_new g)⟩
theorem own_keep (o : OwnS K G1 H1 l m es ds σ H) (e : Same H H') : OwnS K G1 H1 l m es ds σ H' := by
  obtain ⟨G', xs, n, h, ha, hE, hσ⟩ := o
  exact ⟨G', xs, n.trans (Nw.of n.s e), e l _ h, ha, hE, hσ⟩
theorem own_set {i : Nat} {v : V} (o : OwnS K G1 H1 l m es ds σ H) (hi : i ≠ m) (hv : ∀ G', Same G1 G' → Dp K G' v d) : OwnS K G1 H1 l m (es.set i (some d)) ds (σ.set i (some v)) H := by
  obtain ⟨G', xs, n, h, ha, hE, hσ⟩ := o
  exact ⟨G', xs, n, h, ha, hE.set i (hv G' n.g), by rw [List.getElem?_set_ne hi]; exact hσ⟩
theorem own_none {i : Nat} (o : OwnS K G1 H1 l m es ds σ H) : OwnS K G1 H1 l m (es.set i none) ds σ H := by
  obtain ⟨G', xs, n, h, ha, hE, hσ⟩ := o
  refine ⟨G', xs, n, h, ha, hE.le ⟨by rw [List.length_set], fun j d e => ?_⟩, hσ⟩
  by_cases hj : i = j
  · subst hj
    by_cases hl : i < es.length
    · rw [List.getElem?_set_self hl] at e; cases e
    · rw [List.getElem?_eq_none (by rw [List.length_set]; omega)] at e; cases e
  · rw [List.getElem?_set_ne hj] at e; exact e
theorem own_app {j : Nat} {D : Ends} (hs : Same G1 H1) (hl : H1 l = none) (o : OwnS K G1 H1 l m es ds σ H) (hj : es[j]? = some (some d)) (hz : ds.length < 100000) (q : ∀ H', OwnS K G1 H1 l m es (ds ++ [d]) σ H' → D.nx σ H') :
    tDrop (tBM K "list" rAppend (tVar m) (tCons (tVar j) tNil)) D σ H := by
  obtain ⟨G', xs, n, h, ha, hE, hσ⟩ := o
  obtain ⟨v, hv, dv⟩ := hE.2 j d hj
  refine ⟨.ref l, hσ, .inl ⟨rfl, _, SqL.of h⟩, v, hv, l, xs, v, rfl, rfl, h, ?_, ?_⟩
  · rw [dps_len ha]; exact Nat.lt_of_lt_of_le hz (by decide)
  · exact q _ ⟨G', xs ++ [v], n.trans (Nw.put n.s (own_free hs hl n) h), upd_same, dps_app ha (.cons dv .nil), hE, hσ⟩
theorem own_pop {D : Ends} (hs : Same G1 H1) (hl : H1 l = none) (o : OwnS K G1 H1 l m es (ds ++ [d]) σ H) (q : ∀ H', OwnS K G1 H1 l m es ds σ H' → D.nx σ H') : tDrop (tBM0 K "list" rPop (tVar m)) D σ H := by
  obtain ⟨G', xs, n, h, ha, hE, hσ⟩ := o
  have hlen := dps_len ha
  rw [List.length_append, List.length_singleton] at hlen
  have lt : xs.length - 1 < xs.length := by omega
  refine ⟨.ref l, hσ, .inl ⟨rfl, _, SqL.of h⟩, l, xs, xs[xs.length - 1], rfl, rfl, h, List.getElem?_eq_getElem lt, ?_⟩
  refine q _ ⟨G', xs.dropLast, n.trans (Nw.put n.s (own_free hs hl n) h), upd_same, ?_, hE, hσ⟩
  have z := dps_take (xs.length - 1) ha
  rw [List.dropLast_eq_take]
  rw [List.take_append_of_le_length (l₁ := ds) (by omega), List.take_of_length_le (l := ds) (by omega)] at z
  exact z
theorem own_end {G H0 : Hp} {Q : VK} (n1 : Nw none G H0 G1 H1) (hl : H1 l = none) (o : OwnS K G1 H1 l m es ds σ H) (k : ∀ v G' H', Nw none G H0 G' H' → Dp K G' v (.list ds) → Q v H') : Q (.ref l) H := by
  obtain ⟨G', xs, n, h, ha, hE, hσ⟩ := o
  exact k (.ref l) (upd G' l (.lst xs)) H (n1.trans (n.close hl n1.s h)) (.lst (SqL.of upd_same) (dpsm ha (same_new (own_free n1.s hl n))))
end
/-! ### the chain -/
abbrev Pt := Int × Int
def popS (r : Pt) : List Pt → List Pt
  | b :: a :: t => if lft a b r then b :: a :: t else popS r (a :: t)
  | l => l
def pushS (s : List Pt) (r : Pt) : List Pt := r :: popS r s
def chn (rows : List Pt) : List Pt := (rows.foldl pushS []).reverse
def goOn (r : Pt) : List Pt → Bool
  | b :: a :: _ => !lft a b r
  | _ => false
theorem popS_sub (r : Pt) : ∀ (s : List Pt), ∀ x ∈ popS r s, x ∈ s
  | [], x, h => h
  | [b], x, h => h
  | b :: a :: t, x, h => by
    unfold popS at h
    split at h
    · exact h
    · exact List.mem_cons_of_mem _ (popS_sub r (a :: t) x h)
theorem popS_len (r : Pt) : ∀ (s : List Pt), (popS r s).length ≤ s.length
  | [] => Nat.le_refl _
  | [b] => Nat.le_refl _
  | b :: a :: t => by
    unfold popS
    split
    · exact Nat.le_refl _
    · have := popS_len r (a :: t)
      simp only [List.length_cons] at this ⊢
      omega
theorem popS_go {r : Pt} {s : List Pt} (h : goOn r s = true) : popS r s = popS r s.tail ∧ s ≠ [] := by
  match s, h with
  | b :: a :: t, h =>
    refine ⟨?_, fun z => nomatch z⟩
    show popS r (b :: a :: t) = popS r (a :: t)
    rw [popS.eq_def]
    have h' : lft a b r = false := by simpa [goOn] using h
    simp [h']
theorem popS_stop {r : Pt} {s : List Pt} (h : goOn r s = false) : popS r s = s := by
  match s, h with
  | [], _ => rfl
  | [b], _ => rfl
  | b :: a :: t, h =>
    have h' : lft a b r = true := by simpa [goOn] using h
    rw [popS.eq_def]
    simp [h']
section
variable {K : PySem.W.Frag} {rows : List Pt} {tc : TT}
def tChainT (K : PySem.W.Frag) (tc : TT) : TS := tSeq (tAsg (tLst tNil) (gName 1)) (tSeq (tFor (iList K (tVar 0)) (gName 2) (tSeq (tWhile tc (tDrop (tBM0 K "list" rPop (tVar 1)))) (tDrop (tBM K "list" rAppend (tVar 1) (tCons (tVar 2) tNil))))) (tRet (tVar 1)))
theorem st_chain (hz : rows.length ≤ 1000) (hT : ∀ (st : List Pt) (r : Pt), (∀ x ∈ st, x ∈ rows) → r ∈ rows → Et K tc [some (.list (rows.map dq)), some (.list (st.reverse.map dq)), some (dq r)] (goOn r st)) :
    St K (tChainT K tc) [some (.list (rows.map dq)), none, none] (.list ((chn rows).map dq)) := fun σ G H D hE hS k => by
  refine ⟨Nat.zero_le _, fun l hl => ?_⟩
  have o0 := own_start (l := l) (m := 1) hS hl hE (by show 1 < 3; decide)
  obtain ⟨v0, hv0, dv0⟩ := hE.2 0 _ rfl
  obtain ⟨a, xs, rfl, hq, hd⟩ := dp_lst dv0
  have hlen : xs.length = rows.length := by rw [dps_len hd, List.length_map]
  -- the loop over the rows
  refine ⟨.ref a, by rw [List.getElem?_set_ne (by decide)]; exact hv0, a, rfl, ⟨xs, (hS.trans (same_new hl)).seq hq⟩, ?_⟩
  have rd : ∀ {es ds σ' H'}, OwnS K G H l 1 es ds σ' H' → SqL K H' a xs := fun o => by
    obtain ⟨G', ys, n, _⟩ := o
    exact (n.g.trans n.s).seq hq
  refine for_list (xs := xs) (fun i σ' H' => ∃ st, st = (rows.take i).foldl pushS [] ∧ (∀ x ∈ st, x ∈ rows) ∧ st.length ≤ i ∧ OwnS K G H l 1 [some (.list (rows.map dq)), none, none] (st.reverse.map dq) σ' H') ⟨[], rfl, fun x h => absurd h (by simp), Nat.le_refl _, o0⟩ (fun i σ' H' _ ⟨st, _, _, _, o⟩ => rd o) (fun i x σ' H' hx ⟨st, est, hst, lst, o⟩ => ?_) (fun σ' H' ⟨st, est, _, _, o⟩ => ?_)
  · have hi : i < rows.length := by rw [← hlen]; exact (List.getElem?_eq_some_iff.mp hx).1
    obtain ⟨y, hy, dy⟩ := dps_get hd (d := dq rows[i]) (by rw [List.getElem?_map, List.getElem?_eq_getElem hi]; rfl)
    have ex := Option.some.inj (hy.symm.trans hx)
    subst ex
    have o1 : OwnS K G H l 1 [some (.list (rows.map dq)), none, some (dq rows[i])] (st.reverse.map dq) (σ'.set 2 (some y)) H' := own_set (i := 2) o (by decide) fun G' e => dpm dy e
    have hr : rows[i] ∈ rows := List.getElem_mem hi
    -- the while
    show tWhile tc _ _ _ _
    refine ⟨fun m σ2 H2 => ∃ st2 : List Pt, st2.length = m ∧ popS rows[i] st2 = popS rows[i] st ∧ (∀ x ∈ st2, x ∈ rows) ∧ OwnS K G H l 1 [some (.list (rows.map dq)), none, some (dq rows[i])] (st2.reverse.map dq) σ2 H2, ⟨st.length, st, rfl, rfl, hst, o1⟩, fun m σ2 H2 w => ?_⟩
    obtain ⟨st2, rfl, hp, hsub, o2⟩ := w
    obtain ⟨Gp, sGp, eGp⟩ := own_read hS hl o2 (by show 1 < 3; decide)
    refine hT st2 rows[i] hsub hr σ2 Gp H2 eGp sGp _ fun H3 s3 => ?_
    have o3 := own_keep o2 s3
    cases hg : goOn rows[i] st2 with
    | true =>
      obtain ⟨e1, ne⟩ := popS_go hg
      obtain ⟨b, t, rfl⟩ : ∃ b t, st2 = b :: t := by
        cases st2 with
        | nil => exact absurd rfl ne
        | cons b t => exact ⟨b, t, rfl⟩
      show ∃ N, _ ∧ _
      refine ⟨fun σ4 H4 => ∃ m', m' < (b :: t).length ∧ ∃ st2 : List Pt, st2.length = m' ∧ popS rows[i] st2 = popS rows[i] st ∧ (∀ x ∈ st2, x ∈ rows) ∧ OwnS K G H l 1 [some (.list (rows.map dq)), none, some (dq rows[i])] (st2.reverse.map dq) σ4 H4, fun _ _ z => z, ?_⟩
      rw [List.reverse_cons, List.map_append] at o3
      exact own_pop hS hl o3 fun H4 o4 => ⟨t.length, by simp, t, rfl, e1.symm.trans hp, fun x hx' => hsub x (List.mem_cons_of_mem _ hx'), o4⟩
    | false =>
      have e1 : st2 = popS rows[i] st := by rw [← hp, popS_stop hg]
      refine iteF ?_
      have ll : st2.length ≤ i := by rw [e1]; exact Nat.le_trans (popS_len _ _) lst
      refine own_app (j := 2) (d := dq rows[i]) hS hl o3 rfl (by rw [List.length_map, List.length_reverse]; omega) fun H4 o4 => ?_
      refine ⟨pushS st rows[i], ?_, fun x hx' => ?_, ?_, ?_⟩
      · rw [List.take_add_one, List.getElem?_eq_getElem hi, List.foldl_append, ← est]; rfl
      · rcases List.mem_cons.mp hx' with z | z
        · rw [z]; exact hr
        · exact hst x (popS_sub _ _ x z)
      · show (popS rows[i] st).length + 1 ≤ i + 1
        have := popS_len rows[i] st
        omega
      · have z := own_none (i := 2) o4
        unfold pushS
        rw [List.reverse_cons, List.map_append, ← e1]
        exact z
  · -- return
    rw [hlen, List.take_length] at est
    have e : st.reverse = chn rows := by rw [est]; rfl
    rw [e] at o
    obtain ⟨G', ys, n, h, ha, hE', hσ⟩ := id o
    exact ⟨.ref l, hσ, own_end (Nw.refl hS) hl o k⟩
end
section
variable {P : Program} {w : World} {K : PySem.W.Frag} {mg : Str → Option Value} {base : Heap} (T : Blt K mg)
include T
end
end Wf
set_option Elab.async false
set_option linter.all false
set_option maxRecDepth 100000
set_option maxHeartbeats 4000000
/-! sorted of a set of pairs of ints of either sign -/
namespace Wf
open PySem PySem.Spec PyProof.Rows L2
/-- a pair's rank -/
def rk (p q : Int) : Int := p * 2097152 + q
def rkL (ns : List Int) : Int := rk (ns.getD 0 0) (ns.getD 1 0)
abbrev Sm (p q : Int) : Prop := (-1048576 < p ∧ p < 1048576) ∧ (-1048576 < q ∧ q < 1048576)
/-- the values are pairs of small ints -/
def Prs (h : Heap) (vs : List Value) : Prop := ∀ v ∈ vs, ∃ p q, TS.TupInts h v [p, q] ∧ Sm p q
theorem Prs.keeps {h h' : Heap} {vs : List Value} (x : Prs h vs) (k : ∀ b o, h.get? b = some o → o.cls = .type "tuple" → h'.get? b = some o) : Prs h' vs := fun v hv => by
  obtain ⟨p, q, t, s⟩ := x v hv
  exact ⟨p, q, t.keeps k, s⟩
theorem two_of {xs : List Value} {p q : Int} (h : IntsAre xs [p, q]) : ∃ t u, xs = [Value.int p t, Value.int q u] := by
  cases h with
  | cons _ t h =>
    cases h with
    | cons _ u h =>
      cases h
      exact ⟨t, u, rfl⟩
theorem heads_of {h : Heap} : ∀ vs : List Value, Prs h vs → ∃ fs, PySem.W.KatTups h vs fs ∧ fs.length = vs.length ∧ ∀ f ∈ fs, ∃ n t, f = Value.int n t
  | [], _ => ⟨[], .nil, rfl, fun f hf => absurd hf (by simp)⟩
  | v :: vs, x => by
    obtain ⟨fs, kt, hl, hi⟩ := heads_of vs fun u hu => x u (List.mem_cons_of_mem _ hu)
    obtain ⟨p, q, ⟨a, ar, ev, ⟨o, ho, hc, n, hd⟩, ia⟩, _⟩ := x v List.mem_cons_self
    subst ev
    obtain ⟨t, u, e⟩ := two_of ia
    refine ⟨Value.int p t :: fs, .cons ho hc hd ?_ kt, by rw [List.length_cons, List.length_cons, hl], fun f hf => ?_⟩
    · have z := congrArg (fun l : List Value => l[0]?) e
      simpa using z
    · rcases List.mem_cons.mp hf with rfl | hf
      · exact ⟨p, t, rfl⟩
      · exact hi f hf
section
variable {prog : Program} {w : World} {A : Around} {E : Value → Shared → Prop} {s : Shared}
theorem one_lt (c : Bool) {p q : Int} {t u : Tok} {Q : Bool → Shared → Prop} (h : Q (decide (p < q)) s) : wpAny (model prog w) A (oneLt' c (.int p t) (.int q u)) Q E s := TS.oneLt_ints c h
/-- the comparison goes by the rank -/
theorem kind_prs {vs : List Value} (h2 : 2 ≤ vs.length) (x : Prs s.heap vs) (r : Value → Int) (hr : ∀ v ∈ vs, ∀ p q, TS.TupInts s.heap v [p, q] → r v = rk p q) (Q : SortKind → Shared → Prop)
    (h : ∀ κ, TS.Cmp prog w A s κ (pairsOf vs) r → Q κ s) : wpAny (model prog w) A (keyKind' vs.toArray) Q E s := by
  obtain ⟨fs, kt, hl, hi⟩ := heads_of vs x
  refine PySem.W.kat_kind (T := Value.type "int") kt (by omega) (fun f hf => ?_) rfl (h _ fun a b ha hb Q' E' hQ => ?_)
  · obtain ⟨n, t, rfl⟩ := hi f hf
    exact PySem.W.Looks.of_pure rfl
  · rw [pairsOf_toList] at ha hb
    have ma := (mem_zip_self ha).2
    have mb := (mem_zip_self hb).2
    obtain ⟨p, q, ta, sa⟩ := x _ ma
    obtain ⟨p', q', tb, sb⟩ := x _ mb
    rw [hr _ ma _ _ ta, hr _ mb _ _ tb] at hQ
    obtain ⟨ad, ar, e1, ⟨o, ho, hc, n, hd⟩, ia⟩ := ta
    obtain ⟨ad', ar', e2, ⟨o', ho', hc', n', hd'⟩, ib⟩ := tb
    obtain ⟨t, u, ea⟩ := two_of ia
    obtain ⟨t', u', eb⟩ := two_of ib
    rw [e1, e2]
    refine PySem.W.kat_lt ho hd ho' hd' ?_
    have z : decide (ar.size < ar'.size) = false := by
      have l1 := congrArg List.length ea
      have l2 := congrArg List.length eb
      rw [Array.length_toList] at l1 l2
      exact decide_eq_false (by rw [l1, l2]; exact Nat.lt_irrefl _)
    rw [z, ea, eb]
    have sa' : (-1048576 < p ∧ p < 1048576) ∧ (-1048576 < q ∧ q < 1048576) := sa
    have sb' : (-1048576 < p' ∧ p' < 1048576) ∧ (-1048576 < q' ∧ q' < 1048576) := sb
    refine PySem.W.kat_cons (wpAny_eqBool_int ?_)
    by_cases e : p = p'
    · subst e
      rw [beq_self_eq_true]
      refine PySem.W.kat_yes (PySem.W.kat_cons (wpAny_eqBool_int ?_))
      by_cases e' : q = q'
      · subst e'
        rw [beq_self_eq_true]
        refine PySem.W.kat_yes (PySem.W.kat_nil ?_)
        rw [show decide (rk p q < rk p q) = false from decide_eq_false (Int.lt_irrefl _)] at hQ
        exact hQ
      · rw [beq_eq_false_iff_ne.mpr e']
        refine PySem.W.kat_no (one_lt _ ?_)
        rw [show decide (rk p q < rk p q') = decide (q < q') from decide_eq_decide.mpr (by unfold rk; omega)] at hQ
        exact hQ
    · rw [beq_eq_false_iff_ne.mpr e]
      refine PySem.W.kat_no (one_lt _ ?_)
      rw [show decide (rk p q < rk p' q') = decide (p < p') from decide_eq_decide.mpr (by unfold rk; omega)] at hQ
      exact hQ
/-- xs.sort() of pairs -/
theorem call_sort_prs {a : Addr} {vs : List Value} {n : Nat} {Q : Value → Shared → Prop} (ho : s.heap.get? a = some (seqObj "list" vs.toArray n)) (h64 : vs.length < 64) (x : Prs s.heap vs)
    (h : ∀ out : Array Value, out.toList.Perm vs → out.toList.Pairwise (fun u v => rkL (TS.intsOf s.heap u) ≤ rkL (TS.intsOf s.heap v)) → Q .none { s with heap := sortedHeap s.heap a vs out }) :
    wpAny (model prog w) A (call (.builtin "list.sort") [.ref a]) Q E s := by
  have keep : ∀ b o, s.heap.get? b = some o → o.cls = .type "tuple" → (TS.midHeap s.heap a vs).get? b = some o := fun b o eb hc => by
    refine TS.midHeap_old (fun z => ?_) eb
    subst z
    rw [ho] at eb
    have e' := Option.some.inj eb
    subst e'
    have c' : Value.type "list" = Value.type "tuple" := hc
    exact absurd (Value.type.inj c') (by decide)
  refine wpAny_call_entry PySem.F.slot_list_sort ⟨_, ho, rfl⟩ PySem.F.entry_list_sort ?_ (PySem.F.args_list_sort_1 _)
  refine SK.plain_sort (r := fun v => rkL (TS.intsOf s.heap v)) ho h64 (fun h2 Q' hQ => ?_) fun ps out h1 h2 h3 => ?_
  · refine kind_prs (s := { s with heap := TS.midHeap s.heap a vs }) h2 (x.keeps keep) _ (fun v hv p q t => ?_) Q' hQ
    obtain ⟨p0, q0, t0, _⟩ := x v hv
    have e : [p, q] = [p0, q0] := t.ints.symm.trans (t0.keeps keep).ints
    rw [t0.ints, ← e]
    rfl
  · obtain ⟨pm, pw⟩ := TS.out_rank (r := fun v => rkL (TS.intsOf s.heap v)) h1 h2 h3
    exact ⟨_, rfl, h out pm pw⟩
end
/-- sorted(set of pairs): the rows in order -/
def rSortedW (K : PySem.W.Frag) (P : Program) (w : World) : List V → Hp → VK → Prop := fun vs H Q => ∃ (a : Addr) (L : List (Addr × List Int)), vs = [V.ref a] ∧ H a = some (SetTO P w a L) ∧ (∀ p ∈ L, SqT K H p.1 (p.2.map V.int)) ∧
  (∀ p ∈ L, ∃ x y, p.2 = [x, y] ∧ Sm x y) ∧
  ∀ (L' : List (Addr × List Int)) (p : Addr), L'.Perm L → (L'.map (·.2)).Nodup → L'.length < 64 → L'.Pairwise (fun q r => rkL q.2 ≤ rkL r.2) → H p = none → Q (.ref p) (upd H p (.lst (L'.map fun q => V.ref q.1)))
/-- values that are the addresses of rows -/
theorem rows_back (L : List (Addr × List Int)) : ∀ vs : List Value, (∀ v ∈ vs, ∃ q ∈ L, v = Value.ref q.1) → ∃ L1 : List (Addr × List Int), vs = L1.map (fun q => Value.ref q.1) ∧ ∀ q ∈ L1, q ∈ L
  | [], _ => ⟨[], rfl, fun q hq => absurd hq (by simp)⟩
  | v :: vs, h => by
    obtain ⟨q, hq, e⟩ := h v List.mem_cons_self
    obtain ⟨L1, e1, hs⟩ := rows_back L vs fun u hu => h u (List.mem_cons_of_mem _ hu)
    exact ⟨q :: L1, by rw [List.map_cons, e, e1], fun r hr => (List.mem_cons.mp hr).elim (fun z => z ▸ hq) (hs r)⟩
section
variable {P : Program} {w : World} {A : Around} {E : Value → Shared → Prop} {s : Shared} {a : Addr} {L : List (Addr × List Int)} {es : Array (Int × Value)} {ep : Nat} {t : SetTable}
theorem rows_perm (R : SetTR P w s.heap a L es ep t) {L1 : List (Addr × List Int)} (hs : ∀ q ∈ L1, q ∈ L) (pm : (L1.map (fun q => Value.ref q.1)).Perm (L.map fun q => Value.ref q.1)) : L1.Perm L := by
  have uniq : ∀ q ∈ L, ∀ r ∈ L, q.1 = r.1 → q = r := fun q hq r hr e => by
    have t1 := R.tup q hq
    rw [e] at t1
    exact Prod.ext e (t1.inj (R.tup r hr))
  have nL : L.Nodup := nodup_of_map R.nd
  have nR : (L.map fun q => Value.ref q.1).Nodup := List.pairwise_map.mpr (List.Pairwise.imp_of_mem (fun {q r} hq hr hne e => hne (uniq q hq r hr (Value.ref.inj e))) nL)
  have n1 : L1.Nodup := nodup_of_map (pm.nodup_iff.mpr nR)
  refine (List.perm_ext_iff_of_nodup n1 nL).mpr fun q => ⟨hs q, fun hq => ?_⟩
  obtain ⟨r, hr, e⟩ := List.mem_map.mp (pm.mem_iff.mpr (List.mem_map.mpr ⟨q, hq, rfl⟩))
  rw [← uniq r (hs r hr) q hq (Value.ref.inj e)]
  exact hr
theorem sorted_setW {Q : Value → Shared → Prop} (R : SetTR P w s.heap a L es ep t) (hh : A.handled = none) (hB : ∀ p ∈ L, ∃ x y, p.2 = [x, y] ∧ Sm x y)
    (hQ : ∀ s' p (out : Array Value) (c : Nat) (L' : List (Addr × List Int)), (∀ b o, s.heap.get? b = some o → s'.heap.get? b = some o) → s'.gens = s.gens → s'.os = s.os → s.heap.objs.size ≤ p →
      s'.heap.get? p = some (seqObj "list" out c) → out.toList = L'.map (fun q => Value.ref q.1) → L'.Perm L → L'.Pairwise (fun q r => rkL q.2 ≤ rkL r.2) → Q (.ref p) s') :
    wpAny (model P w) A (call (.builtin "sorted") [.ref a]) Q E s := by
  obtain ⟨o, ho, hex, hd⟩ := R.ob
  have few := R.few
  have size := R.size
  refine Calls.call_function_entry kind_sorted plain_sorted entry_sorted (args_sorted1 _) ?_
  unfold Builtin.«sorted»
  refine wpAny_bind (m := checkCount "sorted" 1 1 _) (wpAny_pure ?_)
  refine wpAny_bind (collect_set (A := A.in1) hh ⟨o, ho, hex.1, hd⟩ R.fits (by unfold scanBound; omega) R.tab.ris R.led fun s1 vs k1 hz g1 o1 pm => ?_)
  rw [show es.toList.map (·.2) = L.map fun q => Value.ref q.1 by rw [R.rows]; unfold L2.rowsOf; rw [List.map_map]; rfl] at pm
  have hvl : vs.length < 64 := by rw [pm.length_eq, List.length_map]; exact few
  refine wpAny_bind (wpAny_newList ?_ (by rw [sizeLine_eq]; omega))
  have hL : (s1.heap.push (seqObj "list" vs.toArray 0)).get? s1.heap.objs.size = some (seqObj "list" vs.toArray 0) := Heap.get?_push_size _ rfl
  have tk : ∀ q ∈ L, TS.TupInts (s1.heap.push (seqObj "list" vs.toArray 0)) (.ref q.1) q.2 := fun q hq => tupInts_of (P := P) (w := w) (isT_keep (R.tup q hq) fun b u e => Heap.get?_push_of_some _ (k1 b u e))
  have x : Prs (s1.heap.push (seqObj "list" vs.toArray 0)) vs := fun v hv => by
    obtain ⟨q, hq, e⟩ := List.mem_map.mp (pm.mem_iff.mp hv)
    obtain ⟨p1, p2, e2, sm⟩ := hB q hq
    have z := tk q hq
    rw [e2, e] at z
    exact ⟨p1, p2, z, sm⟩
  refine wpAny_bind (wpAny_holding (call_sort_prs (s := { s1 with heap := s1.heap.push (seqObj "list" vs.toArray 0) }) hL hvl x fun out a1 a2 => ?_))
  obtain ⟨c, hc⟩ := sortedHeap_at (vs := vs) (out := out) hL
  obtain ⟨L', e', hs'⟩ := rows_back L out.toList fun v hv => by
    obtain ⟨q, hq, e⟩ := List.mem_map.mp (pm.mem_iff.mp (a1.mem_iff.mp hv))
    exact ⟨q, hq, e.symm⟩
  have pL : L'.Perm L := rows_perm R hs' (by rw [← e']; exact a1.trans pm)
  have pw : L'.Pairwise (fun q r => rkL q.2 ≤ rkL r.2) := by
    rw [e'] at a2
    refine List.Pairwise.imp_of_mem (fun {q r} hq hr hle => ?_) (List.pairwise_map.mp a2)
    have f1 : TS.intsOf (s1.heap.push (seqObj "list" vs.toArray 0)) (.ref q.1) = q.2 := (tk q (hs' q hq)).ints
    have f2 : TS.intsOf (s1.heap.push (seqObj "list" vs.toArray 0)) (.ref r.1) = r.2 := (tk r (hs' r hr)).ints
    rw [← f1, ← f2]
    exact hle
  refine wpAny_pure ⟨_, rfl, hQ _ s1.heap.objs.size out c L' (fun b u e => ?_) g1 o1 hz hc e' pL pw⟩
  have kb := k1 b u e
  have lt := Heap.lt_size kb
  show (sortedHeap (s1.heap.push (seqObj "list" vs.toArray 0)) s1.heap.objs.size vs out).get? b = some u
  rw [sortedHeap_old (Nat.ne_of_lt lt) (by rw [size_push']; exact Nat.lt_succ_of_lt lt)]
  exact Heap.get?_push_of_some _ kb
end
theorem cr_sortedW {X : Cx} (hc : X.calm = true) : CallR X (.builtin "sorted") (rSortedW X.K X.prog X.w) := by
  intro pins s σ H vs us Q I r h
  obtain ⟨a, L, rfl, ha, hk, hB, q⟩ := h
  have R0 : SetT0 X.prog X.w s.heap a L := (I.hok a _ ha).1
  obtain ⟨es, ep, t, R⟩ := R0.full fun p hp => I.isT (hk p hp)
  rw [Vals.ref1 r]
  refine sorted_setW R (I.ok.hd hc) hB fun s' p out c L' k g o hp hg hout pm pw => ?_
  have few : L'.length < 64 := by rw [pm.length_eq]; exact R.few
  have hn : H p = none := I.hok.fresh hp
  have hv : Vals (L'.map fun q => V.ref q.1) out.toList := by rw [hout]; exact vals_of_refs L'
  have J : Inv X pins σ (upd H p (.lst (L'.map fun q => V.ref q.1))) { s with heap := s'.heap, gens := s'.gens, drawn := s'.drawn, toks := s'.toks } :=
    I.call (ch := []) (Un.laid k hp hn) (I.hok.laid k hp ⟨by rw [List.length_map, sizeLine_eq]; omega, out.toList, c, hv, hg⟩) (by rw [g]; exact I.bare) (fun _ z => nomatch z)
  obtain ⟨h', g', d', t', o'⟩ := s'
  have eo : o' = s.os := o
  subst eo
  exact ⟨.ref p, _, J, rfl, q L' p pm ((pm.map (·.2)).nodup_iff.mpr R.nd) few pw hn⟩
end Wf
set_option Elab.async false
set_option linter.all false
set_option maxRecDepth 100000
set_option maxHeartbeats 4000000
/-! set comprehensions whose elements are tuples of ints -/
namespace Wf
open PySem PySem.Spec PyProof.Rows L2
section
variable {P : Program} {w : World} {A : Around} {E : Value → Shared → Prop} {s : Shared} {a : Addr} {L : List (Addr × List Int)} {es : Array (Int × Value)} {ep : Nat} {t : SetTable}
/-- set.add of a tuple of ints -/
theorem addT_raw {x : Addr} {k : List Int} {Q : Value → Shared → Prop} (R : SetTR P w s.heap a L es ep t) (hx : IsT P w s.heap k x) (hu : A.units + 3 < cLine) (few : L.length + 1 < 64)
    (hQ : ∀ h' tk L' es' ep' t', Heap.SameBut a s.heap h' → SetTR P w h' a L' es' ep' t' → (k ∈ L.map (·.2) → L' = L) → (k ∉ L.map (·.2) → L'.Perm ((x, k) :: L)) → Q .none { s with heap := h', toks := tk }) :
    wpAny (model P w) A (call (.builtin "set.add") [.ref a, .ref x]) Q E s := by
  obtain ⟨o, ho, hex, hd⟩ := id R.ob
  refine wpAny_call_entry F.slot_set_add (show s.TypeIs (.ref a) "set" from ⟨o, ho, hex.1⟩) F.entry_set_add ?_ (F.args_set_add_2 _ _)
  unfold Builtin.«set.add» Builtin.Frozenset.oneOther
  simp only [List.isEmpty_nil, bind_assoc]
  unfold Builtin.Frozenset.addrOf setAdd
  refine wpAny_bind (wpAny_pure ?_)
  try dsimp only
  refine wpAny_bind (wpAny_pure ?_)
  try dsimp only
  refine wpAny_bind (wpAny_holding (wpAny_bind (wpAny_pyHash_tuple (by simp; omega) hx ?_)))
  refine add_at (s := { s with toks := s.toks + (k.length + 1) }) R hx (by simp; omega) few fun b h' L' es' ep' t' sb R' c1 c2 => ?_
  show wpAny _ _ (ret Value.none) _ _ _
  exact wpAny_pure ⟨_, rfl, hQ h' _ L' es' ep' t' sb R' c1 c2⟩
end
section
variable {X : Cx}
/-- .. over the layer -/
theorem addT_ok {pins : List (Addr × Obj)} {σ : L2.St} {H : Hp} {s : Shared} {E : Value → Shared → Prop} {D x : Addr} {k : List Int} {L : List (Addr × List Int)} {Q : Value → Shared → Prop} (I : Inv X pins σ H s) (hu : X.A.units + 64 < cLine)
    (hD : H D = some (SetTO X.prog X.w D L)) (hk : ∀ p ∈ L, SqT X.K H p.1 (p.2.map V.int)) (hx : SqT X.K H x (k.map V.int)) (few : L.length + 1 < 64)
    (h : ∀ L' s', (k ∈ L.map (·.2) → L' = L) → (k ∉ L.map (·.2) → L'.Perm ((x, k) :: L)) → Inv X pins σ (upd H D (SetTO X.prog X.w D L')) s' → Q .none s') : wpAny (model X.prog X.w) X.A (call (.builtin "set.add") [.ref D, .ref x]) Q E s := by
  have R0 : SetT0 X.prog X.w s.heap D L := (I.hok D _ hD).1
  obtain ⟨es, ep, t, R⟩ := R0.full fun p hp => I.isT (hk p hp)
  refine addT_raw R (I.isT hx) (by omega) few fun h' tk L' es' ep' t' sb R' c1 c2 => ?_
  have there : ∃ u, h'.get? D = some u := by
    obtain ⟨o, ho, _⟩ := R'.ob
    exact ⟨o, ho⟩
  exact h L' _ c1 c2 (I.write (e := D) (t' := tk) (by rw [hD]; trivial) (.inl rfl) (fun b u hb hu => (sb.2 b hb).trans hu) there (setTO_new R'.t0))
/-- the reading of {elt for target in iter}: D the new set -/
def tScT (P : Program) (w : World) (K : PySem.W.Frag) (wi : TI) (g : TG) (tt : TT) (te : TE) (vs : List Nat) : TE := fun σ H Q => wi σ H fun J H1 => ∀ D, H1 D = none → ∃ W : Nat → Nat → Hp → Prop, (∃ m, W 0 m (upd H1 D (SetTO P w D []))) ∧ ∀ i m H, W i m H →
  (J.stop i H ∧ Q (.ref D) H) ∨ (J.go i H ∧ ∃ Nx : Hp → Prop, (∀ H', Nx H' → ∃ m', m' < m ∧ W (i + 1) m' H') ∧ ∀ x H', J.yld i H x H' → g x (wipe σ vs) H' fun σ2 H2 => wipe σ2 vs = wipe σ vs ∧ tt σ2 H2 fun b H3 =>
    if b = true then te σ2 H3 fun y H4 => ∃ (z : Addr) (k : List Int) (L : List (Addr × List Int)), y = .ref z ∧ SqT K H4 z (k.map V.int) ∧ H4 D = some (SetTO P w D L) ∧ (∀ p ∈ L, SqT K H4 p.1 (p.2.map V.int)) ∧ L.length + 1 < 64 ∧
      (∀ L', (k ∈ L.map (·.2) → L' = L) → (k ∉ L.map (·.2) → L'.Perm ((z, k) :: L)) → Nx (upd H4 D (SetTO P w D L'))) else Nx H3)
theorem pe_scT {elt tg iter : Expr} {ifs : List Expr} {scope : Scope} {own : List (PySem.Str × Nat)} {pos : Pos} {wi : TI} {g : TG} {tt : TT} {te : TE} (hu : X.A.units + 64 < cLine) (hc : X.calm = true) (hN : X.N.Nodup) (hi : PI X tg iter wi) (ok : BlkOk X.N X.env.scope scope own)
    (hg : ∀ (s : Shared) (H : Hp) (C : Addr) (cl : List (PySem.Str × Addr)) (fp : List Addr), PG (X.blk s H scope (compEnvC scope cl C X.env) fp) tg g)
    (ht : ∀ (s : Shared) (H : Hp) (C : Addr) (cl : List (PySem.Str × Addr)) (fp : List Addr), PTs (X.blk s H scope (compEnvC scope cl C X.env) fp) ifs tt)
    (he : ∀ (s : Shared) (H : Hp) (C : Addr) (cl : List (PySem.Str × Addr)) (fp : List Addr), PE (X.blk s H scope (compEnvC scope cl C X.env) fp) elt te) (hs : ∀ x, foldedSetIterable iter X.env x = pure x := by intro _; rfl) :
    PE X (.SetComp elt [⟨tg, iter, ifs, 0⟩] scope pos) (tScT X.prog X.w X.K wi g tt te (own.map (·.2))) := by
  refine ⟨fun pins s σ H Q I h => ?_⟩
  rw [PpSet.eval_SetComp]
  have free : ∀ y ∈ scope.names, y.2 = .free → ∃ c, X.env.cells.lookup y.1 = some c := fun y hy e => (ok.free y hy e).elim (fun k => I.ok.has _ (.inl k)) fun k => I.ok.has _ (.inr k)
  refine wpAny_comprehension_free (use := none) rfl hs (closure_ok free) ok.kind (fun y hy e => by rw [ok.uniq y hy, e]) (thn (hi.run pins s σ H _ I h) fun xv s1 hx => thn hx fun itv s2 hit => ?_)
  obtain ⟨it, fp, tn, J, H2, ei, I2, T, st2, f2, q⟩ := hit
  subst ei
  refine PpSet.newSet_ok (newEnv_comp ?_)
  generalize eD : s2.heap.objs.size = D
  have freeD : H2 D = none := I2.hok.fresh (Nat.le_of_eq eD)
  obtain ⟨W, ⟨m0, w0⟩, turn⟩ := q D freeD
  -- the empty set is laid
  generalize e3 : ({ s2 with heap := s2.heap.push { cls := .type "set", dict := none, data := .set #[] 0 (.fresh 0 0 (!X.w.params.followText "set-order")) } } : Shared) = s3
  have h3 : s3.heap = s2.heap.push { cls := .type "set", dict := none, data := .set #[] 0 (.fresh 0 0 (!X.w.params.followText "set-order")) } := by rw [← e3]
  have I3 : Inv X pins σ (upd H2 D (SetTO X.prog X.w D [])) s3 := by
    rw [← e3]
    refine I2.laid (t' := s2.toks) (fun b o z => Heap.get?_push_of_some _ z) (Nat.le_of_eq eD) ?_
    rw [← eD]
    exact setTO_new (setTR_fresh (Heap.get?_push_size _ rfl)).t0
  have below : ∀ b ∈ fp, b < s2.heap.objs.size := fun b hb => by
    obtain ⟨o, z, _⟩ := T.obj _ _ st2 b hb
    exact Heap.lt_size z
  have f3 : ∀ b ∈ fp, FpOk X pins (upd H2 D (SetTO X.prog X.w D [])) b ∧ b < s3.heap.objs.size := fun b hb => by
    have lt := below b hb
    refine ⟨⟨?_, (f2 b hb).2⟩, by rw [h3, Heap.size_push]; exact Nat.lt_succ_of_lt lt⟩
    rw [upd_ne (by rw [← eD]; exact Nat.ne_of_lt lt)]
    exact (f2 b hb).1
  have st3 : tn 0 s3.heap := T.keep _ _ _ st2 fun b _ o z => by rw [h3]; exact Heap.get?_push_of_some _ z
  have I4 := block_start I3 ok hN f3
  have pg := hg s3 (upd H2 D (SetTO X.prog X.w D [])) s3.heap.objs.size (cellsFrom (s3.heap.objs.size + 1) scope.names (cloFrom X.env.cells scope.names [])) fp
  have pt := ht s3 (upd H2 D (SetTO X.prog X.w D [])) s3.heap.objs.size (cellsFrom (s3.heap.objs.size + 1) scope.names (cloFrom X.env.cells scope.names [])) fp
  have pe := he s3 (upd H2 D (SetTO X.prog X.w D [])) s3.heap.objs.size (cellsFrom (s3.heap.objs.size + 1) scope.names (cloFrom X.env.cells scope.names [])) fp
  have nofp : ∀ b ∈ fp, (upd H2 D (SetTO X.prog X.w D [])) b = none := fun b hb => (f3 b hb).1.1
  show codeAny _ _ (.compStart (.SetComp elt [⟨tg, iter, ifs, 0⟩] scope pos) 0 (.ref it) (.ref D) (compEnvC scope (cellsFrom (s3.heap.objs.size + 1) scope.names (cloFrom X.env.cells scope.names [])) s3.heap.objs.size X.env)) _ { s3 with heap := pushCells (s3.heap.push { cls := .type "dict", data := .dict #[] }) scope.names }
  generalize ec : compEnvC scope (cellsFrom (s3.heap.objs.size + 1) scope.names (cloFrom X.env.cells scope.names [])) s3.heap.objs.size X.env = ce at I4 pg pt pe ⊢
  have loc : ce.locals = s3.heap.objs.size := by subst ec; rfl
  generalize eH : upd H2 D (SetTO X.prog X.w D []) = H3 at I3 I4 pg pt pe w0 nofp f3
  generalize e4 : ({ s3 with heap := pushCells (s3.heap.push { cls := .type "dict", data := .dict #[] }) scope.names } : Shared) = s4 at I4 ⊢
  have st4 : tn 0 s4.heap := T.keep _ _ _ st3 fun b _ o z => by rw [← e4]; exact pushCells_keeps _ _ _ _ (Heap.get?_push_of_some _ z)
  have fpk : ∀ {σ' : L2.St} {H' : Hp} {s' : Shared}, Inv (X.blk s3 H3 scope ce fp) [] σ' H' s' → (∀ b ∈ fp, H' b = none) → ∀ b ∈ fp, FpOk (X.blk s3 H3 scope ce fp) [] H' b := fun {σ' H' s'} I' hn b hb =>
    ⟨hn b hb, (I'.ok.exf b hb).1, I'.ok.exfs b hb, .inl hb, fun x c z => (I'.ok.exf b hb).2 x c z, fun p hp => absurd (show p ∈ ([] : List (Addr × Obj)) ++ [] from hp) (by simp)⟩
  have loop : codeAny (model X.prog X.w) X.A (.compLoop (.SetComp elt [⟨tg, iter, ifs, 0⟩] scope pos) 0 (.ref it) (.ref D) ce) (compPost (model X.prog X.w) X.A X.xe none (EP X pins σ Q) (.ref D) s3.heap.objs.size) s4 := by
    refine PpSet.compLoopS_any (fun n s' => ∃ i H', Inv (X.blk s3 H3 scope ce fp) [] (wipe σ (own.map (·.2))) H' s' ∧ tn i s'.heap ∧ (∀ b ∈ fp, H' b = none) ∧ W i n H') ?_ m0 ⟨0, H3, I4, st4, nofp, w0⟩
    rintro n s5 ⟨i, H5, I5, st5, n5, w5⟩
    rcases turn i n H5 w5 with ⟨stop, qq⟩ | ⟨go, Nx, hNx, step⟩
    · refine thnF (T.done (X.blk s3 H3 scope ce fp) rfl rfl rfl hc i [] s5 _ H5 (fun _ _ => False) I5 (fpk I5 n5) st5 stop) fun r s6 ⟨hr, I6⟩ => ?_
      subst hr
      have I7 : Inv X pins σ H5 s6 := I3.call' (ch := fp) I6.os I6.base I6.hok I6.bare fun b hb => ⟨(f3 b hb).1.2.2.2.1, (f3 b hb).1.2.1, (f3 b hb).1.2.2.2.2.1, (f3 b hb).1.2.2.2.2.2⟩
      have nC : H5 s3.heap.objs.size = none := by
        have z : H5 ce.locals = none := I6.free
        rw [loc] at z
        exact z
      obtain ⟨m, hn, _⟩ := I6.loc
      have hn : s6.heap.Ns ce.locals m := hn
      rw [loc] at hn
      obtain ⟨f0, f1, f2', f3', f4, f5⟩ := I3.fpOk (Nat.le_refl _) nC
      exact ⟨m, hn, fun h'' sb => ⟨.ref D, H5, I7.turned (t' := s6.toks) (fun b o hb z => (sb.2 b hb).trans z) f0 f1 f3' f4 f5, rfl, qq⟩⟩
    · refine thnF (T.item (X.blk s3 H3 scope ce fp) rfl rfl rfl hc i [] s5 _ H5 (fun _ _ => False) I5 (fpk I5 n5) st5 go) fun r s6 ⟨u, hr, h6⟩ => ?_
      subst hr
      refine thnF h6 fun _ s7 ⟨x, H7, I7, r7, y7, st7, n7⟩ => ?_
      have I7' := I7.pinned (fpk I7 n7) (T.obj _ _ st7)
      refine thnF (pg.run _ s7 _ H7 x u _ I7' r7 (step x H7 y7)) fun _ s8 ⟨σ8, H8, I8, hw8, q8⟩ => ?_
      refine thnF (pt.run _ s8 σ8 H8 _ I8 q8) fun b s9 ⟨H9, I9, q9⟩ => ?_
      have fin : ∀ {s' : Shared} {H' : Hp}, Inv (X.blk s3 H3 scope ce fp) ([] ++ pinsAt fp s7.heap) σ8 H' s' → Nx H' → ∃ m, m < n ∧ ∃ i H', Inv (X.blk s3 H3 scope ce fp) [] (wipe σ (own.map (·.2))) H' s' ∧ tn i s'.heap ∧ (∀ b ∈ fp, H' b = none) ∧ W i m H' := fun {s' H'} I' nx => by
        obtain ⟨m', hm, w'⟩ := hNx H' nx
        have pin' : ∀ b ∈ fp, ∀ o, s7.heap.get? b = some o → s'.heap.get? b = some o ∧ H' b = none := fun b hb o z => by
          have pz := I'.pin (b, o) (List.mem_append_right _ (List.mem_append_right _ (mem_pinsAt hb z)))
          exact ⟨pz.1, pz.2.1⟩
        refine ⟨m', hm, i + 1, H', (I'.unpinned (pins := [])).weak (by rw [← hw8, wipe_length]) (fun j v z => ?_), T.keep _ _ _ st7 fun b hb o z => (pin' b hb o z).1, fun b hb => ?_, w'⟩
        · rw [← hw8] at z
          exact (wipe_some z).1
        · obtain ⟨o, z, _⟩ := T.obj _ _ st7 b hb
          exact (pin' b hb o z).2
      cases b with
      | false =>
        simp only [Bool.false_eq_true, if_false] at q9 ⊢
        exact fin I9 q9
      | true =>
        simp only [if_true] at q9 ⊢
        refine thnF (pe.run _ s9 σ8 H9 _ I9 q9) fun zv s10 ⟨yv, H10, I10, r10, z, k, L0, ey, hz, hD10, hk10, few, nx⟩ => ?_
        subst ey
        cases (show zv = Value.ref z from r10)
        exact addT_ok (X := X.blk s3 H3 scope ce fp) I10 hu hD10 hk10 hz few fun L' s11 c1 c2 I11 => fin I11 (nx L' c1 c2)
  exact PpSet.codeAny_compStart_set loop (T.self X.A 0 _ _ _ st4 loop)
end
end Wf
set_option Elab.async false
set_option linter.all false
set_option maxRecDepth 100000
set_option maxHeartbeats 2000000
/-! sorted({..}) of pairs, as a function -/
namespace Wf
open PySem PySem.Spec PyProof.Rows L2
def ltP (p q : Pt) : Bool := decide (p.1 < q.1) || (decide (p.1 = q.1) && decide (p.2 < q.2))
def insP (p : Pt) : List Pt → List Pt
  | [] => [p]
  | q :: l => if ltP p q then p :: q :: l else if p = q then q :: l else q :: insP p l
def ssort (l : List Pt) : List Pt := l.foldr insP []
abbrev Asc (l : List Pt) : Prop := l.Pairwise (fun p q => ltP p q = true)
theorem ltP_iff {p q : Pt} : ltP p q = true ↔ p.1 < q.1 ∨ (p.1 = q.1 ∧ p.2 < q.2) := by simp [ltP]
theorem pt_ext {p q : Pt} (h1 : p.1 = q.1) (h2 : p.2 = q.2) : p = q := Prod.ext h1 h2
theorem ltP_tri (p q : Pt) : ltP p q = true ∨ p = q ∨ ltP q p = true := by
  rw [ltP_iff, ltP_iff]
  by_cases h : p = q
  · exact .inr (.inl h)
  · have h' : ¬ (p.1 = q.1 ∧ p.2 = q.2) := fun z => h (pt_ext z.1 z.2)
    omega
theorem ltP_tr {p q r : Pt} (h1 : ltP p q = true) (h2 : ltP q r = true) : ltP p r = true := by
  rw [ltP_iff] at *
  omega
theorem ltP_irr (p : Pt) : ¬ ltP p p = true := by rw [ltP_iff]; omega
theorem ltP_as {p q : Pt} (h1 : ltP p q = true) : ¬ ltP q p = true := by rw [ltP_iff] at *; omega
theorem mem_insP (p x : Pt) : ∀ l : List Pt, x ∈ insP p l ↔ x = p ∨ x ∈ l
  | [] => by simp [insP]
  | q :: l => by
    unfold insP
    split
    · simp
    · split
      · rename_i _ h
        subst h
        simp
      · rw [List.mem_cons, mem_insP p x l, List.mem_cons]
        constructor
        · rintro (h | h | h)
          · exact .inr (.inl h)
          · exact .inl h
          · exact .inr (.inr h)
        · rintro (h | h | h)
          · exact .inr (.inl h)
          · exact .inl h
          · exact .inr (.inr h)
theorem asc_insP (p : Pt) : ∀ l : List Pt, Asc l → Asc (insP p l)
  | [], _ => by simp [insP, Asc]
  | q :: l, h => by
    obtain ⟨h1, h2⟩ := List.pairwise_cons.mp h
    unfold insP
    split
    · rename_i hp
      refine List.pairwise_cons.mpr ⟨fun x hx => ?_, h⟩
      rcases List.mem_cons.mp hx with e | e
      · rw [e]; exact hp
      · exact ltP_tr hp (h1 x e)
    · split
      · exact h
      · rename_i hp hne
        refine List.pairwise_cons.mpr ⟨fun x hx => ?_, asc_insP p l h2⟩
        rcases (mem_insP p x l).mp hx with e | e
        · rw [e]
          rcases ltP_tri p q with z | z | z
          · exact absurd z hp
          · exact absurd z hne
          · exact z
        · exact h1 x e
theorem mem_ssort (x : Pt) : ∀ l : List Pt, x ∈ ssort l ↔ x ∈ l
  | [] => Iff.rfl
  | p :: l => by
    show x ∈ insP p (ssort l) ↔ _
    rw [mem_insP, mem_ssort x l, List.mem_cons]
theorem asc_ssort : ∀ l : List Pt, Asc (ssort l)
  | [] => List.Pairwise.nil
  | p :: l => asc_insP p _ (asc_ssort l)
/-- two ascending lists with the same members are one -/
theorem asc_uniq : ∀ {l m : List Pt}, Asc l → Asc m → (∀ x, x ∈ l ↔ x ∈ m) → l = m
  | [], [], _, _, _ => rfl
  | [], y :: m, _, _, h => absurd ((h y).mpr List.mem_cons_self) (by simp)
  | x :: l, [], _, _, h => absurd ((h x).mp List.mem_cons_self) (by simp)
  | x :: l, y :: m, hl, hm, h => by
    obtain ⟨a1, a2⟩ := List.pairwise_cons.mp hl
    obtain ⟨b1, b2⟩ := List.pairwise_cons.mp hm
    have e : x = y := by
      rcases List.mem_cons.mp ((h x).mp List.mem_cons_self) with z | z
      · exact z
      · rcases List.mem_cons.mp ((h y).mpr List.mem_cons_self) with z' | z'
        · exact z'.symm
        · exact absurd (b1 x z) (ltP_as (a1 y z'))
    subst e
    refine congrArg _ (asc_uniq a2 b2 fun z => ⟨fun hz => ?_, fun hz => ?_⟩)
    · rcases List.mem_cons.mp ((h z).mp (List.mem_cons_of_mem _ hz)) with q | q
      · exact absurd (a1 z hz) (by rw [q]; exact ltP_irr x)
      · exact q
    · rcases List.mem_cons.mp ((h z).mpr (List.mem_cons_of_mem _ hz)) with q | q
      · exact absurd (b1 z hz) (by rw [q]; exact ltP_irr x)
      · exact q
theorem Nw.drop {G H G' H' : Hp} {p : Addr} {o : HO} (n : Nw (some p) G (upd H p o) G' H') (hp : H p = none) : Nw none G H G' H' := by
  refine ⟨n.g, n.s, fun b u e => ?_, fun l hl e => ?_⟩
  · have hb : b ≠ p := ne_of_none e hp
    obtain ⟨h1, h2⟩ := n.k b u (by rw [upd_ne hb]; exact e)
    exact ⟨h1, fun _ => h2 (fun z => hb (Option.some.inj z))⟩
  · have hb : l ≠ p := fun z => hl (by rw [z]; exact hp)
    exact n.f l (by rw [upd_ne hb]; exact hl) e
def lst2 (p : Pt) : List Int := [p.1, p.2]
theorem lst2_inj {p q : Pt} (h : lst2 p = lst2 q) : p = q := by
  unfold lst2 at h
  simp only [List.cons.injEq, and_true] at h
  exact pt_ext h.1 h.2
/-- rows in order are the sorted list -/
theorem rows_sorted {L' : List (Addr × List Int)} {l : List Pt} (nd : (L'.map (·.2)).Nodup) (pw : L'.Pairwise (fun q r => rkL q.2 ≤ rkL r.2)) (sm : ∀ p ∈ l, Sm p.1 p.2) (mem : ∀ k, k ∈ L'.map (·.2) ↔ k ∈ l.map lst2) : L'.map (·.2) = (ssort l).map lst2 := by
  have back : ∀ q ∈ L', ∃ p ∈ l, q.2 = lst2 p := fun q hq => by
    obtain ⟨p, hp, e⟩ := List.mem_map.mp ((mem q.2).mp (List.mem_map.mpr ⟨q, hq, rfl⟩))
    exact ⟨p, hp, e.symm⟩
  -- read the rows back as points
  have key : L'.map (·.2) = ((L'.map (·.2)).map fun k => (k.getD 0 0, k.getD 1 0)).map lst2 := by
    rw [List.map_map, List.map_map]
    refine List.map_congr_left fun q hq => ?_
    obtain ⟨p, _, e⟩ := back q hq
    simp only [Function.comp]
    rw [e]; rfl
  rw [key]
  refine congrArg _ (asc_uniq ?_ (asc_ssort l) fun x => ?_)
  · rw [List.map_map, Asc, List.pairwise_map]
    have z := List.pairwise_map.mp nd
    refine List.Pairwise.imp_of_mem (fun {q r} hq hr h => ?_) (pw.and z)
    obtain ⟨hle, hne⟩ := h
    obtain ⟨p, hp, e⟩ := back q hq
    obtain ⟨p', hp', e'⟩ := back r hr
    have s1 := sm p hp
    have s2 := sm p' hp'
    simp only [Function.comp]
    rw [e, e'] at hle hne
    rw [e, e']
    have hle' : p.1 * 2097152 + p.2 ≤ p'.1 * 2097152 + p'.2 := hle
    have hne' : ¬ (p.1 = p'.1 ∧ p.2 = p'.2) := fun z => hne (by rw [pt_ext z.1 z.2])
    rw [ltP_iff]
    show p.1 < p'.1 ∨ p.1 = p'.1 ∧ p.2 < p'.2
    simp only [Sm] at s1 s2
    omega
  · rw [mem_ssort, List.mem_map]
    constructor
    · rintro ⟨k, hk, rfl⟩
      obtain ⟨p, hp, e⟩ := List.mem_map.mp ((mem k).mp hk)
      rw [← e]
      exact hp
    · intro hx
      exact ⟨lst2 x, (mem _).mpr (List.mem_map.mpr ⟨x, hx, rfl⟩), rfl⟩
section
variable {K : PySem.W.Frag} {P : Program} {w : World} {es : List (Option PyData)} {tl te : TE} {ds : List PyData} {vs : List Nat} {g : TG}
/-- the set so far -/
def SI (P : Program) (w : World) (K : PySem.W.Frag) (G1 H1 : Hp) (D : Addr) (ks : List (List Int)) (H' : Hp) : Prop := ∃ G' L, Nw (some D) G1 (upd H1 D (SetTO P w D [])) G' H' ∧ H' D = some (SetTO P w D L) ∧ (∀ p ∈ L, SqT K G' p.1 (p.2.map V.int)) ∧ (∀ k, k ∈ L.map (·.2) ↔ k ∈ ks) ∧ L.length ≤ ks.length
theorem ed_sortset (out : PyData → Pt) (h : Ed K tl es (.list ds)) (hz : ds.length < 63) (hsm : ∀ d ∈ ds, Sm (out d).1 (out d).2) (hs : ∀ d, d ∈ ds → ∃ es1, Gd K g vs (wipeE es vs) d es1 ∧ Ed K te es1 (dq (out d))) :
    Ed K (tCB (rSortedW K P w) (tCons (tScT P w K (iList K tl) g tYes te vs) tNil)) es (.list ((ssort (ds.map out)).map dq)) := fun σ G H hE hS Q k =>
  h σ G H hE hS _ fun v G1 H1 n1 dv => by
    obtain ⟨a, xs, rfl, hq, hd⟩ := dp_lst dv
    have hl := dps_len hd
    refine ⟨a, rfl, ⟨xs, n1.s.seq hq⟩, fun D hD => ?_⟩
    refine ⟨fun i m H' => m = ds.length - i ∧ i ≤ ds.length ∧ SI P w K G1 H1 D ((ds.take i).map fun d => lst2 (out d)) H', ⟨ds.length, by simp, Nat.zero_le _, G1, [], Nw.refl (Nw.open n1.s hD), upd_same, fun p hp => absurd hp (by simp), fun k => by simp, Nat.le_refl _⟩, fun i m H' w' => ?_⟩
    obtain ⟨rfl, hi, G', L, n, hDL, hL, hm, hlen⟩ := w'
    have gD : G' D = none := n.f D (by rw [upd_same]; exact fun z => nomatch z) (n1.s.free hD)
    have hq' : SqL K H' a xs := (n.g.trans n.s).seq hq
    by_cases lt : i < ds.length
    · obtain ⟨y, hy, dy⟩ := dps_get hd (List.getElem?_eq_getElem lt)
      refine .inr ⟨⟨xs, y, hq', hy⟩, SI P w K G1 H1 D ((ds.take (i + 1)).map fun d => lst2 (out d)), fun H2 c2 => ⟨ds.length - (i + 1), by omega, rfl, lt, c2⟩, fun x H2 yl => ?_⟩
      obtain ⟨rfl, f0⟩ := yl
      have ex : x = y := Option.some.inj ((f0 xs hq').symm.trans hy)
      subst ex
      obtain ⟨es1, hg, he⟩ := hs _ (List.getElem_mem lt)
      refine hg _ G' _ x ((hE.mono (n1.g.trans n.g)).wipe vs) (dpm dy n.g) n.s _ fun σ2 hE2 w2 => ⟨by rw [w2, wipe_wipe], ?_⟩
      show te σ2 _ _
      refine he σ2 G' _ hE2 n.s _ fun v4 G4 H4 n4 dv4 => ?_
      obtain ⟨z, zs, rfl, hz4, az4⟩ := dp_tup dv4
      have ezs : zs = (lst2 (out ds[i])).map V.int := dps_ints (ns := lst2 (out ds[i])) az4
      subst ezs
      have h4 := n4.keep D _ hDL
      have g4 : G4 D = none := n4.f D (by rw [hDL]; exact fun z => nomatch z) gD
      have ek : (ds.take (i + 1)).map (fun d => lst2 (out d)) = (ds.take i).map (fun d => lst2 (out d)) ++ [lst2 (out ds[i])] := by
        rw [List.take_add_one, List.getElem?_eq_getElem lt, List.map_append]; rfl
      have hlt : ((ds.take i).map fun d => lst2 (out d)).length ≤ i := by rw [List.length_map, List.length_take]; exact Nat.min_le_left _ _
      refine ⟨z, lst2 (out ds[i]), L, rfl, same_seqT n4.s hz4, h4, fun p hp => same_seqT (n4.g.trans n4.s) (hL p hp), by omega, fun L' c1 c2 => ?_⟩
      rw [ek]
      refine ⟨G4, L', (n.trans n4.up).trans (Nw.put n4.s g4 h4), upd_same, ?_, ?_, ?_⟩
      · intro p hp
        by_cases hk : lst2 (out ds[i]) ∈ L.map (·.2)
        · rw [c1 hk] at hp
          exact same_seqT n4.g (hL p hp)
        · rcases List.mem_cons.mp ((c2 hk).mem_iff.mp hp) with e | e
          · rw [e]; exact hz4
          · exact same_seqT n4.g (hL p e)
      · intro k'
        by_cases hk : lst2 (out ds[i]) ∈ L.map (·.2)
        · rw [c1 hk, hm k', List.mem_append, List.mem_singleton]
          exact ⟨.inl, fun z => z.elim id fun e => e ▸ (hm _).mp hk⟩
        · rw [((c2 hk).map (·.2)).mem_iff, List.map_cons, List.mem_cons, hm k', List.mem_append, List.mem_singleton]
          exact Or.comm
      · rw [List.length_append, List.length_singleton]
        by_cases hk : lst2 (out ds[i]) ∈ L.map (·.2)
        · rw [c1 hk]; omega
        · rw [(c2 hk).length_eq, List.length_cons]; omega
    · have e : i = ds.length := by omega
      subst e
      refine .inl ⟨⟨xs, hq', by omega⟩, ?_⟩
      rw [List.take_length] at hm
      show rSortedW K P w [V.ref D] H' Q
      refine ⟨D, L, rfl, hDL, fun p hp => same_seqT n.s (hL p hp), fun p hp => ?_, fun L' p pm nd few pw hp => ?_⟩
      · obtain ⟨d, hd', e⟩ := List.mem_map.mp ((hm p.2).mp (List.mem_map.mpr ⟨p, hp, rfl⟩))
        exact ⟨(out d).1, (out d).2, e.symm, hsm d hd'⟩
      · have e1 : L'.map (·.2) = (ssort (ds.map out)).map lst2 := rows_sorted nd pw (fun p hp => by
          obtain ⟨d, hd', e⟩ := List.mem_map.mp hp
          rw [← e]; exact hsm d hd') fun k' => by
            rw [(pm.map (·.2)).mem_iff, hm k', List.map_map]; rfl
        have nD : Nw none G1 H1 G' H' := n.drop hD
        refine k (.ref p) (upd G' p (.lst (L'.map fun q => V.ref q.1))) _ ((n1.trans nD).trans (Nw.new n.s hp)) (.lst (SqL.of upd_same) ?_)
        have gp := n.s.free hp
        -- the rows as data
        have all : ∀ (M : List (Addr × List Int)) (ps : List Pt), M.map (·.2) = ps.map lst2 → (∀ q ∈ M, SqT K G' q.1 (q.2.map V.int)) → DpAll K (upd G' p (.lst (L'.map fun q => V.ref q.1))) (M.map fun q => V.ref q.1) (ps.map dq) := by
          intro M
          induction M with
          | nil =>
            intro ps e _
            cases ps with
            | nil => exact .nil
            | cons _ _ => simp at e
          | cons q M ih =>
            intro ps e hM
            cases ps with
            | nil => simp at e
            | cons r ps =>
              rw [List.map_cons, List.map_cons, List.cons.injEq] at e
              refine .cons (.tup (same_seqT (same_new gp) (hM q List.mem_cons_self)) ?_) (ih ps e.2 fun x hx => hM x (List.mem_cons_of_mem _ hx))
              rw [e.1]
              exact .cons (.int _) (.cons (.int _) .nil)
        exact all L' _ e1 fun q hq => hL q (pm.mem_iff.mp hq)
end
end Wf
set_option Elab.async false
set_option linter.all false
set_option maxRecDepth 100000
set_option maxHeartbeats 4000000
/-! enumerate of a tuple -/
namespace PySem

theorem wf_enum_new (l : Addr) (items : Array Value) (n : Nat) (dct : Option Addr) (sl : Array (Option Value)) :
    Meets (Builtin.«enumerate.__new__» ⟨[.type "enumerate", .ref l], []⟩) (fun _ R s => s.heap.get? l = some { cls := .type "tuple", dict := dct, data := .seq items n, slots := sl } ∧
      R (.ok (.ret (.ref (s.heap.push { cls := .type "tuple_iterator", data := .fields #[.ref l, .int 0 0] }).objs.size)))
        { s with heap := (s.heap.push { cls := .type "tuple_iterator", data := .fields #[.ref l, .int 0 0] }).push { cls := .type "enumerate", data := .fields #[.none, .bool false, .ref s.heap.objs.size, rawInt 0, .none, .none] } }) :=
  .of_wp fun prog w A R s h => by
    obtain ⟨hp, g, d, tk, os⟩ := s
    obtain ⟨hl, h⟩ := h
    have below := sub_enumerate
    have hT : Heap.IsTuple (Shared.heap ⟨hp, g, d, tk, os⟩) l items := ⟨_, hl, rfl, n, rfl⟩
    wp_walk using PySem.AutoSeq1.wpAny_loadPart' hl
    refine wpAny_stack_any fun st => wpAny_pure ?_
    split
    · rename_i c _ _ _ _ _
      cases (c == Value.type "enumerate") <;> (wp_walk using PySem.AutoSeq1.wpAny_loadPart' hl, wpAny_pyIter_tuple hT; exact ⟨_, rfl, h⟩)
    · (wp_walk using PySem.AutoSeq1.wpAny_loadPart' hl, wpAny_pyIter_tuple hT)
      exact ⟨_, rfl, h⟩
section
variable {prog : Program} {w : World} {A : Around} {E : Value → Shared → Prop} {s : Shared}
theorem wf_enum_call {l : Addr} {items : Array Value} {Q : Value → Shared → Prop} (hL : s.heap.IsTuple l items)
    (h : ∀ h', IsEnum h' (s.heap.objs.size + 1) s.heap.objs.size 0 .none → h'.IsTupleIter s.heap.objs.size l 0 → (∀ b o, s.heap.get? b = some o → h'.get? b = some o) → Q (.ref (s.heap.objs.size + 1)) { s with heap := h' }) :
    wpAny (model prog w) A (call (.type "enumerate") [.ref l]) Q E s := by
  obtain ⟨⟨c, dct, dt, sl⟩, hl, hc, n, hd⟩ := hL
  have hc' : c = .type "tuple" := hc
  have hd' : dt = .seq items n := hd
  subst hc' hd'
  refine callType_new F.called_enumerate (by decide) (F.typeCall_enumerate_1 _) (F.newCall_enumerate_1 _) (fun obj => F.args_object_init_2 obj _) F.entry_enumerate_new (wf_enum_new l items n dct sl) ⟨hl, ?_⟩
  have hz : (s.heap.push { cls := .type "tuple_iterator", data := .fields #[.ref l, .int 0 0] }).objs.size = s.heap.objs.size + 1 := Heap.size_push ..
  show _ ∧ _
  rw [hz]
  have he : IsEnum ((s.heap.push { cls := .type "tuple_iterator", data := .fields #[.ref l, .int 0 0] }).push { cls := .type "enumerate", data := .fields #[.none, .bool false, .ref s.heap.objs.size, rawInt 0, .none, .none] }) (s.heap.objs.size + 1) s.heap.objs.size 0 .none := by
    have z := Heap.get?_push_size (s.heap.push { cls := .type "tuple_iterator", data := .fields #[.ref l, .int 0 0] }) (o := { cls := .type "enumerate", data := .fields #[.none, .bool false, .ref s.heap.objs.size, rawInt 0, .none, .none] }) rfl
    rw [hz] at z
    exact z
  exact ⟨⟨_, he, rfl⟩, h _ he ⟨_, Heap.get?_push_of_some _ (Heap.get?_push_size _ rfl), rfl, rfl⟩ fun b o x => Heap.get?_push_of_some _ (Heap.get?_push_of_some _ x)⟩
end
end PySem
namespace Wf
open PySem PySem.Spec PyProof.Rows L2
/-- the tuple's turns, each item in a new pair -/
def IteT (K : PySem.W.Frag) (a : Addr) : It :=
  ⟨fun i H => ∃ (xs : List V) (x : V), SqT K H a xs ∧ xs[i]? = some x, fun i H v H' => ∃ T x, v = .ref T ∧ H T = none ∧ H' = upd H T (.tup [.int (i : Nat), x]) ∧ ∀ xs, SqT K H a xs → xs[i]? = some x, fun i H => ∃ xs : List V, SqT K H a xs ∧ xs.length ≤ i⟩
theorem tup_ne {h : Heap} {a it : Addr} {its : Array Value} {i : Nat} (p : h.IsTuple a its) (q : h.IsTupleIter it a i) : a ≠ it := fun z => by
  obtain ⟨o, ho, hc, _⟩ := p
  obtain ⟨o', ho', hc', _⟩ := q
  rw [z, ho'] at ho
  have e := Option.some.inj ho
  subst e
  rw [hc'] at hc
  exact absurd (Value.type.inj hc) (by decide)
theorem turn_enumT {P : Program} {w : World} {K : PySem.W.Frag} {elts : List Expr} {kk : Nat} {tpos : Pos} (a e it : Addr) :
    Turn P w K (.Tuple elts kk tpos) (IteT K a) [e, it] e (fun i h => (∃ old, IsEnum h e it ((i : Nat) : Int) old) ∧ h.IsTupleIter it a i ∧ e ≠ it) where
  mem := by simp
  obj := fun i h st b hb => by
    obtain ⟨⟨old, he⟩, ⟨o, ho, hc, hd⟩, _⟩ := st
    have e' : b = e ∨ b = it := by simpa using hb
    rcases e' with z | z
    · rw [z]; exact ⟨_, he, fun v q => nomatch q⟩
    · rw [z]; exact ⟨o, ho, fun v q => by rw [hd] at q; cases q⟩
  keep := fun i h h' st k => by
    obtain ⟨⟨old, he⟩, hi, hne⟩ := st
    exact ⟨⟨old, k e (by simp) _ he⟩, hi.at fun o q => k it (by simp) o q, hne⟩
  item := by
    intro X hP hw hK hc i pins s σ H E I hf st hg
    subst hP hw hK
    obtain ⟨⟨old, he⟩, hit, hne⟩ := st
    obtain ⟨xs, x, hq, hx⟩ := hg
    obtain ⟨its, rv, p, hz⟩ := I.tuple hq
    obtain ⟨u, hu, ru⟩ := rv.get hx
    have pT : s.heap.IsTuple a its.toArray := p
    have hel : e < s.heap.objs.size := Heap.lt_size he
    have hil : it < s.heap.objs.size := by obtain ⟨_, q, _⟩ := hit; exact Heap.lt_size q
    have lt : i < its.toArray.size := by rw [List.size_toArray]; exact (List.getElem?_eq_some_iff.mp hu).1
    have eH : e ≠ a := fun z => by
      obtain ⟨o, ho, hc', _⟩ := pT
      have he' : s.heap.get? e = some _ := he
      rw [← z, he'] at ho
      have q := Option.some.inj ho
      subst q
      exact absurd (Value.type.inj hc') (by decide)
    refine wpAny_pyNext_enum_itemD (Draws.tuple (A := X.A.in1) (I.ok.hd hc) it a (tup_ne pT hit) its.toArray) he ⟨hit, pT⟩ lt hne (by simp only [List.mem_cons, List.not_mem_nil, or_false, not_or]; exact ⟨hne, eH⟩) fun y h' tk hy ho hit' hT hsz hk => ?_
    have ey : y = u := Option.some.inj (hy.symm.trans (by simpa using hu))
    subst ey
    refine ⟨_, rfl, wpAny_letOwnedTupleGo_enum (s := { s with heap := h', toks := tk + 1 }) ho fun h'' he' sb => ?_⟩
    have hT2 : h''.get? s.heap.objs.size = some { cls := .type "tuple", data := .seq #[.int i tk, y] } := (sb.2 _ (Nat.ne_of_gt hel)).trans hT
    have new : ObjOk X.prog X.w (upd H s.heap.objs.size (.tup [.int (i : Nat), x])) h'' s.heap.objs.size (.tup [.int (i : Nat), x]) :=
      ⟨by show 2 ≤ sizeLine; decide, [.int i tk, y], .cons ⟨_, rfl⟩ (.cons ru .nil), ⟨_, hT2, rfl, _, rfl⟩⟩
    have I1 : Inv X pins σ (upd H s.heap.objs.size (.tup [.int (i : Nat), x])) { s with heap := h'', toks := tk + 1 } :=
      I.turnedNew (ch := [e, it]) (fun b ob hb q => (sb.2 b (fun z => hb (by simp [z]))).trans (hk b ob (fun z => hb (by simp [z])) (fun z => hb (by simp [z])) q)) hf (Nat.le_refl _) new
    refine ⟨.ref s.heap.objs.size, _, I1, rfl, ⟨_, x, rfl, I.hok.fresh (Nat.le_refl _), rfl, fun ys hy => by rw [I.tuple_inj hy hq]; exact hx⟩, ⟨⟨y, ?_⟩, hit'.1.at fun o q => (sb.2 it (Ne.symm hne)).trans q, hne⟩, fun b hb => ?_⟩
    · have e1 : ((i + 1 : Nat) : Int) = (i : Int) + 1 := by omega
      rw [e1]; exact he'
    · have hb' : b < s.heap.objs.size := by
        have e' : b = e ∨ b = it := by simpa using hb
        exact e'.elim (fun z => z ▸ hel) fun z => z ▸ hil
      rw [upd_ne (Nat.ne_of_lt hb')]
      exact (hf b hb).1
  done := by
    intro X hP hw hK hc i pins s σ H E I hf st hg
    subst hP hw hK
    obtain ⟨⟨old, he⟩, hit, hne⟩ := st
    obtain ⟨xs, hq, hx⟩ := hg
    obtain ⟨its, rv, p, hz⟩ := I.tuple hq
    have pT : s.heap.IsTuple a its.toArray := p
    obtain ⟨f0, f1, f2, f3, f4, f5⟩ := hf it (by simp)
    have hl := rv.length
    have wpn : ∀ h', Heap.ExtBut it s.heap h' → (none : Option Value) = none ∧ Inv X pins σ H { s with heap := h' } := fun h' eb => ⟨rfl, I.turned (t' := s.toks) (fun b o hb q => eb b o hb q) f0 f1 f3 f4 f5⟩
    have D := Draws.tuple (prog := X.prog) (w := X.w) (A := X.A.in1) (I.ok.hd hc) it a (tup_ne pT hit) its.toArray
    by_cases lt : its.toArray.size = i
    · exact wpAny_pyNext_enum_endD D he ⟨by rw [lt]; exact hit, pT⟩ wpn
    · have D2 : Draws X.prog X.w X.A.in1 it [it, a] i (fun _ _ => False) (fun j h => j = i ∧ h.IsTupleIter it a i ∧ h.IsTuple a its.toArray) := ⟨fun j h st => (by obtain ⟨_, ⟨o, ho, _⟩, _⟩ := st; exact ⟨o, ho⟩), fun j h h' st k => ⟨st.1, st.2.1.at fun o q => k it (by simp) o q, st.2.2.at fun o q => k a (by simp) o q⟩,
        fun j s' Q' E' hj st hQ => absurd st.1 (Nat.ne_of_lt hj), fun s' Q' E' st hE => wpAny_nextOf_tuple_end (A := X.A.in1) (I.ok.hd hc) st.2.1 st.2.2 (by simp; omega) hE⟩
      exact wpAny_pyNext_enum_endD D2 he ⟨rfl, hit, pT⟩ wpn
  self := fun A i s Q E st h => by
    obtain ⟨⟨_, he⟩, _⟩ := st
    exact wpAny_pyIter_enum he h
def iEnumT (K : PySem.W.Frag) (ta : TA) : TI := fun σ H R => ta σ H fun vs H1 => ∃ a xs, vs = [.ref a] ∧ SqT K H1 a xs ∧ R (IteT K a) H1
theorem pi_enumT {X : Cx} {e : Expr} {ta : TA} {p pos tpos : Pos} {elts : List Expr} {kk : Nat} (hg : Gl X "enumerate") (hm : X.mg "enumerate" = none) (ha : PA X [e] ta) (hs : starEach [e] X.env = [(false, eval e X.env)] := by rfl) :
    PI X (.Tuple elts kk tpos) (.Call (.Name "enumerate" p) [e] [] pos) (iEnumT X.K ta) := by
  refine ⟨fun pins s σ H R I h => ?_⟩
  refine Call_ (ld_blt I hg hm boot_enumerate (PyProof.Rows.callWith_type1 (thn (ha.run pos pins s σ H _ I h) fun us s1 ⟨vs, H1, I1, r1, q1⟩ => ?_) hs rfl))
  obtain ⟨a, xs, ex, hq, q⟩ := q1
  subst ex
  cases r1 with
  | cons r rr =>
    cases rr
    cases r
    obtain ⟨its, rv, p', hz⟩ := I1.tuple hq
    refine wf_enum_call (show s1.heap.IsTuple a its.toArray from p') fun h' he hit hk => wpAny_pyIter_enum he ?_
    have I2 : Inv X pins σ H1 { s1 with heap := h' } := I1.kept (t' := s1.toks) hk
    refine ⟨s1.heap.objs.size + 1, [s1.heap.objs.size + 1, s1.heap.objs.size], _, _, H1, rfl, I2, turn_enumT a (s1.heap.objs.size + 1) s1.heap.objs.size, ⟨⟨.none, he⟩, hit, Nat.succ_ne_self _⟩, fun b hb => ?_, q⟩
    have hle : s1.heap.objs.size ≤ b := by
      have e' : b = s1.heap.objs.size + 1 ∨ b = s1.heap.objs.size := by simpa using hb
      rcases e' with z | z
      · rw [z]; exact Nat.le_succ _
      · rw [z]; exact Nat.le_refl _
    exact I1.fpOk hle (I1.hok.fresh hle)
section
variable {K : PySem.W.Frag} {es es1 : List (Option PyData)} {te : TE} {d : PyData} {ds : List PyData} {vs : List Nat} {g : TG}
/-- [elt for i, x in enumerate(tuple)] -/
theorem ed_lcE {ta : TA} (out : Nat → PyData → PyData) (h : Ea K ta es [.tuple ds]) (hz : ds.length ≤ 40000) (hs : ∀ (i : Nat) (d : PyData), ds[i]? = some d → ∃ es1, Gd K g vs (wipeE es vs) (.tuple [.int i, d]) es1 ∧ Ed K te es1 (out i d)) :
    Ed K (tLc (iEnumT K ta) g tYes te vs) es (.list (ds.mapIdx out)) := fun σ G H hE hS Q k =>
  h σ G H hE hS _ fun us G1 H1 n1 dv => by
    obtain ⟨v0, rfl, hv⟩ := dps1 dv
    obtain ⟨a, xs, rfl, hq, hd⟩ := dp_tup hv
    have hl := dps_len hd
    refine ⟨a, xs, rfl, same_seqT n1.s hq, fun D hD => ?_⟩
    have acc : ∀ i, i < ds.length → ∀ d, ds[i]? = some d → (ds.mapIdx out).take (i + 1) = (ds.mapIdx out).take i ++ (if true = true then [out i d] else []) := fun i hi d e => by
      rw [List.take_add_one, List.getElem?_mapIdx, e]; rfl
    refine ⟨fun i m H' => m = ds.length - i ∧ i ≤ ds.length ∧ CI K G1 H1 D ((ds.mapIdx out).take i) H', ⟨ds.length, by simp, Nat.zero_le _, by rw [List.take_zero]; exact ci_start n1.s hD⟩, fun i m H' w => ?_⟩
    obtain ⟨rfl, hi, c⟩ := w
    have hq' : SqT K H' a xs := by
      obtain ⟨G', ys, n', _⟩ := c
      exact same_seqT (n'.g.trans n'.s) hq
    by_cases lt : i < ds.length
    · obtain ⟨y, hy, dy⟩ := dps_get hd (List.getElem?_eq_getElem lt)
      refine .inr ⟨⟨xs, y, hq', hy⟩, fun H2 => CI K G1 H1 D ((ds.mapIdx out).take (i + 1)) H2, fun H2 c2 => ⟨ds.length - (i + 1), by omega, rfl, lt, c2⟩, fun x H2 yl => ?_⟩
      obtain ⟨T, x0, rfl, hT, rfl, f0⟩ := yl
      have e0 : x0 = y := Option.some.inj ((f0 xs hq').symm.trans hy)
      subst e0
      obtain ⟨es1, hg, he⟩ := hs i _ (List.getElem?_eq_getElem lt)
      -- the pair is a new fact
      obtain ⟨G', ys, n', hD', ha⟩ := c
      have gT := n'.s.free hT
      have nT : Nw (some D) G' H' (upd G' T (.tup [.int (i : Nat), x0])) (upd H' T (.tup [.int (i : Nat), x0])) := Nw.new n'.s hT
      have DT : D ≠ T := ne_of_none hD' hT
      have c2 : CI K G1 H1 D ((ds.mapIdx out).take i) (upd H' T (.tup [.int (i : Nat), x0])) := ⟨_, ys, n'.trans nT, by rw [upd_ne DT]; exact hD', dpsm ha (same_new gT)⟩
      rw [acc i lt _ (List.getElem?_eq_getElem lt)]
      obtain ⟨G3, zs, n3, h3, a3⟩ := id c2
      -- by the turn's own lemma, over the facts with the pair
      have gD : G' D = none := n'.f D (by rw [upd_same]; exact fun z => nomatch z) (n1.s.free hD)
      have gD2 : (upd G' T (.tup [.int (i : Nat), x0])) D = none := by rw [upd_ne DT]; exact gD
      refine hg _ (upd G' T (.tup [.int (i : Nat), x0])) (upd H' T (.tup [.int (i : Nat), x0])) (.ref T) (((hE.mono n1.g).mono (n'.g.trans nT.g)).wipe vs) (.tup (SqT.of upd_same) (.cons (.int _) (.cons (dpm (dpm dy n'.g) (same_new gT)) .nil))) nT.s _ fun σ2 hE2 w2 => ⟨by rw [w2, wipe_wipe], ?_⟩
      show te σ2 _ _
      refine he σ2 _ _ hE2 nT.s _ fun y2 G4 H4 n4 dy2 => ?_
      have h4 : H4 D = some (.lst ys) := n4.keep D _ (by rw [upd_ne DT]; exact hD')
      have g4 : G4 D = none := n4.f D (by rw [upd_ne DT, hD']; exact fun z => nomatch z) gD2
      refine ⟨ys, h4, ?_, G4, ys ++ [y2], ((n'.trans nT).trans n4.up).trans (Nw.put n4.s g4 h4), upd_same, dps_app (dpsm ha ((same_new gT).trans n4.g)) (.cons dy2 .nil)⟩
      rw [dps_len ha, List.length_take]
      exact Nat.lt_of_le_of_lt (Nat.min_le_left _ _) (Nat.lt_of_lt_of_le (by omega : i < 100000) (by decide))
    · have e : i = ds.length := by omega
      subst e
      refine .inl ⟨⟨xs, hq', by omega⟩, ?_⟩
      rw [show (ds.mapIdx out).take ds.length = ds.mapIdx out from List.take_of_length_le (by rw [List.length_mapIdx]; exact Nat.le_refl _)] at c
      exact ci_end n1 hD c k
end
end Wf
set_option Elab.async false
set_option linter.all false
set_option maxRecDepth 100000
set_option maxHeartbeats 4000000
/-! the defs of shapes: chain, hull, sides, support -/
namespace Wf
open PySem PySem.Spec PyProof.Rows L2
local macro_rules | `(tactic| walk_at "mul") => `(tactic| ((try dsimp only); first | exact Or.inl (by omega) | exact Or.inr (by omega)))
local macro_rules | `(tactic| walk_at "ed") => `(tactic| first
  | exact ed_var
  | exact ed_int
  | exact ed_bl
  | exact ed_str
  | (apply ed_add <;> walk_at "ed")
  | (apply ed_sub <;> walk_at "ed")
  | (apply ed_mul <;> first | walk_at "ed" | walk_at "mul")
  | (apply ed_neg <;> walk_at "ed")
  | (apply ed_ixT <;> first | walk_at "ed" | rfl)
  | (apply ed_lt <;> walk_at "ed")
  | (apply ed_le <;> walk_at "ed")
  | (apply ed_gt <;> walk_at "ed")
  | (apply ed_ge <;> walk_at "ed")
  | (apply ed_eqI <;> walk_at "ed")
  | (apply ed_tup <;> first | walk_at "ea" | exact Nat.le_of_ble_eq_true rfl))
local macro_rules | `(tactic| walk_at "ea") => `(tactic| first
  | exact ea_nil
  | (apply ea_cons <;> first | walk_at "ed" | walk_at "ea"))
def onq (f : Int → Int → PyData) : PyData → PyData
  | .tuple [.int a, .int b] => f a b
  | d => d
def on3 (f : P3 → PyData) : PyData → PyData
  | .tuple [.int a, .int b, .int c] => f (a, b, c)
  | d => d
/-! ### mirrors -/
def R_chain (ds : List PyData) (d : PyData) : Prop := ∃ rows : List Pt, ds = [.list (rows.map dq)] ∧ rows.length ≤ 1000 ∧ (∀ r ∈ rows, Sm2 r) ∧ d = .list ((chn rows).map dq)
def und (ps : List P3) : Int := ps.foldl (fun u p => ((Nat.lcm u.natAbs p.2.2.natAbs : Nat) : Int)) 1
def rowsOfP (ps : List P3) : List Pt := ssort (ps.map fun p => (p.1 * (und ps / p.2.2), p.2.1 * (und ps / p.2.2)))
def hulR (rows : List Pt) : List Pt := if rows.length = 1 then rows else (chn rows).dropLast ++ (chn rows.reverse).dropLast
def hul (ps : List P3) : List P3 := (hulR (rowsOfP ps)).map fun q => red3 q.1 q.2 (und ps)
/-- what a hull may be taken of -/
structure HPre (ps : List P3) : Prop where
  ne : ps ≠ []
  len : ps.length < 60
  small : ∀ p ∈ ps, (-1024 < p.1 ∧ p.1 < 1024) ∧ (-1024 < p.2.1 ∧ p.2.1 < 1024) ∧ 0 < p.2.2
  scale : ∃ m : Nat, 0 < m ∧ m ≤ 1000 ∧ ∀ p ∈ ps, p.2.2.natAbs ∣ m
def R_hull (ds : List PyData) (d : PyData) : Prop := ∃ ps : List P3, ds = [.list (ps.map dp)] ∧ HPre ps ∧ d = .tuple ((hul ps).map dp)
def R_is_shape (ds : List PyData) (d : PyData) : Prop := ∃ ps : List P3, ds = [.tuple (ps.map dp)] ∧ HPre ps ∧ (∀ p ∈ ps, cdiv [p.1, p.2.1, p.2.2] = 1) ∧ hul ps = ps ∧ d = .bool true
def sd (ps : List P3) : List P3 := ps.mapIdx fun i p => sdL p (nxt ps i)
structure SPre (ps : List P3) : Prop where
  len : 3 ≤ ps.length ∧ ps.length ≤ 1000
  small : ∀ p ∈ ps, Sp3 p
  ok : ∀ (i : Nat) (p : P3), ps[i]? = some p → SdOk ((stp p (nxt ps i)).2, -(stp p (nxt ps i)).1) p
def R_sides (ds : List PyData) (d : PyData) : Prop := ∃ ps : List P3, ds = [.tuple (ps.map dp)] ∧ SPre ps ∧ d = .tuple ((sd ps).map dp)
def R_has (ds : List PyData) (d : PyData) : Prop := ∃ ps : List P3, ds = [.tuple (ps.map dp), d3 0 0 1] ∧ SPre ps ∧ d = .bool ((sd ps).all fun s => decide (valAt s (0, 0, 1) ≤ 0))
def supp (n : Pt) (ps : List P3) : Pt := ps.foldl (fun b p => if lowerQ b (al n p) then al n p else b) (al n (ps.getD 0 (0, 0, 0)))
def R_support (ds : List PyData) (d : PyData) : Prop := ∃ (ps : List P3) (n : Pt), ds = [.tuple (ps.map dp), dq n] ∧ ps ≠ [] ∧ ps.length ≤ 1000 ∧ (∀ p ∈ ps, Sp3 p) ∧ d = dq (supp n ps)
/-! ### facts -/
theorem und_dvd (m : Nat) : ∀ (ps : List P3) (u : Int), 0 < u → u.natAbs ∣ m → (∀ p ∈ ps, 0 < p.2.2 ∧ p.2.2.natAbs ∣ m) → 0 < ps.foldl (fun u p => ((Nat.lcm u.natAbs p.2.2.natAbs : Nat) : Int)) u ∧ (ps.foldl (fun u p => ((Nat.lcm u.natAbs p.2.2.natAbs : Nat) : Int)) u).natAbs ∣ m
  | [], u, h1, h2, _ => ⟨h1, h2⟩
  | p :: ps, u, h1, h2, h => by
    obtain ⟨a, b⟩ := h p List.mem_cons_self
    refine und_dvd m ps _ ?_ ?_ fun q hq => h q (List.mem_cons_of_mem _ hq)
    · have := Nat.lcm_pos (m := u.natAbs) (n := p.2.2.natAbs) (by omega) (by omega)
      dsimp only
      omega
    · dsimp only
      rw [Int.natAbs_natCast]
      exact Nat.lcm_dvd h2 b
theorem HPre.und_ok {ps : List P3} (h : HPre ps) (qs : List P3) (hq : ∀ p ∈ qs, p ∈ ps) : 0 < und qs ∧ und qs ≤ 1000 := by
  obtain ⟨m, m0, m1, hm⟩ := h.scale
  obtain ⟨a, b⟩ := und_dvd m qs 1 (by decide) (Nat.one_dvd _) fun p hp => ⟨(h.small p (hq p hp)).2.2, hm p (hq p hp)⟩
  have := Nat.le_of_dvd m0 b
  have e : und qs = qs.foldl (fun u p => ((Nat.lcm u.natAbs p.2.2.natAbs : Nat) : Int)) 1 := rfl
  rw [e]
  omega
theorem HPre.w_ok {ps : List P3} (h : HPre ps) {p : P3} (hp : p ∈ ps) : 0 < p.2.2 ∧ p.2.2 ≤ 1000 := by
  obtain ⟨m, m0, m1, hm⟩ := h.scale
  have := Nat.le_of_dvd m0 (hm p hp)
  have := (h.small p hp).2.2
  omega
theorem prod_bd {x q : Int} (hx : -1024 < x ∧ x < 1024) (hq : 0 ≤ q ∧ q ≤ 1000) : -1048576 < x * q ∧ x * q < 1048576 := by
  have h1 : x * q ≤ 1023 * q := Int.mul_le_mul_of_nonneg_right (by omega) hq.1
  have h2 : (-1023) * q ≤ x * q := Int.mul_le_mul_of_nonneg_right (by omega) hq.1
  omega
theorem HPre.rows_sm {ps : List P3} (h : HPre ps) {p : P3} (hp : p ∈ ps) : Sm (p.1 * (und ps / p.2.2)) (p.2.1 * (und ps / p.2.2)) := by
  obtain ⟨a, b, c⟩ := h.small p hp
  obtain ⟨u0, u1⟩ := h.und_ok ps fun _ z => z
  have q0 : 0 ≤ und ps / p.2.2 := Int.ediv_nonneg (by omega) (by omega)
  have q1 : und ps / p.2.2 ≤ 1000 := by
    have := Int.ediv_le_self p.2.2 (Int.le_of_lt u0)
    omega
  exact ⟨prod_bd a ⟨q0, q1⟩, prod_bd b ⟨q0, q1⟩⟩
theorem chn_sub (rows : List Pt) : ∀ x ∈ chn rows, x ∈ rows := by
  have z : ∀ (l : List Pt) (s : List Pt), (∀ x ∈ s, x ∈ rows) → (∀ x ∈ l, x ∈ rows) → ∀ x ∈ l.foldl pushS s, x ∈ rows := by
    intro l
    induction l with
    | nil => intro s hs _ x hx; exact hs x hx
    | cons r l ih =>
      intro s hs hl
      refine ih _ (fun x hx => ?_) fun x hx => hl x (List.mem_cons_of_mem _ hx)
      rcases List.mem_cons.mp hx with e | e
      · rw [e]; exact hl r List.mem_cons_self
      · exact hs x (popS_sub r s x e)
  intro x hx
  exact z rows [] (fun x h => absurd h (by simp)) (fun x h => h) x (List.mem_reverse.mp hx)
theorem chn_len (rows : List Pt) : (chn rows).length ≤ rows.length := by
  have z : ∀ (l s : List Pt), (l.foldl pushS s).length ≤ l.length + s.length := by
    intro l
    induction l with
    | nil => intro s; simp
    | cons r l ih =>
      intro s
      have h1 := ih (pushS s r)
      have h2 := popS_len r s
      have h3 : (pushS s r).length = (popS r s).length + 1 := rfl
      rw [List.foldl_cons, List.length_cons]
      omega
  have h := z rows []
  unfold chn
  rw [List.length_reverse]
  simpa using h
theorem cut_last (ds : List PyData) : cutD ds none (some (-1)) = ds.dropLast := by
  unfold cutD
  rw [HT.sIx_none, List.drop_zero, List.dropLast_eq_take]
  congr 1
  unfold HT.sIx
  first
    | (simp; omega)
    | (split <;> omega)
theorem insP_len (p : Pt) : ∀ l : List Pt, (insP p l).length ≤ l.length + 1
  | [] => Nat.le_refl _
  | q :: l => by
    unfold insP
    split
    · simp
    · split
      · simp
      · have := insP_len p l
        simp only [List.length_cons]
        omega
theorem ssort_len : ∀ l : List Pt, (ssort l).length ≤ l.length
  | [] => Nat.le_refl _
  | p :: l => by
    have h1 := insP_len p (ssort l)
    have h2 := ssort_len l
    show (insP p (ssort l)).length ≤ l.length + 1
    omega
theorem al_den {n : Pt} {p : P3} (h : Sp3 p) : 0 < (al n p).2 ∧ (al n p).2 < 1024 := by
  obtain ⟨w0, w1⟩ := h.w
  have h1 := cd_pos (o := n.1 * p.1 + n.2 * p.2.1) w0
  show 0 < p.2.2 / cdiv [n.1 * p.1 + n.2 * p.2.1, p.2.2] ∧ p.2.2 / cdiv [n.1 * p.1 + n.2 * p.2.1, p.2.2] < 1024
  have h2 : cdiv [n.1 * p.1 + n.2 * p.2.1, p.2.2] ∣ p.2.2 := by
    rw [cdiv2]
    have z := Nat.gcd_dvd_right (n.1 * p.1 + n.2 * p.2.1).natAbs p.2.2.natAbs
    exact Int.natAbs_dvd_natAbs.mp (by rw [Int.natAbs_natCast]; exact z)
  refine ⟨Int.ediv_pos_of_pos_of_dvd w0 (Int.le_of_lt h1.1) h2, ?_⟩
  have := Int.ediv_le_self (cdiv [n.1 * p.1 + n.2 * p.2.1, p.2.2]) (Int.le_of_lt w0)
  omega
theorem getD_mem {ps : List P3} {i : Nat} (h : i < ps.length) : ps.getD i (0, 0, 0) ∈ ps := by
  rw [List.getD_eq_getElem?_getD, List.getElem?_eq_getElem h]
  exact List.getElem_mem h
theorem nxt_mem {ps : List P3} {i : Nat} (h : i < ps.length) : nxt ps i ∈ ps := by
  unfold nxt
  split
  · exact getD_mem (by assumption)
  · exact getD_mem (by omega)
theorem map_mapIdx' {α β γ : Type} (f : Nat → α → β) (g : β → γ) (l : List α) : (l.mapIdx f).map g = l.mapIdx fun i x => g (f i x) := by
  apply List.ext_getElem?
  intro i
  simp [Function.comp_def]
theorem mapIdx_map' {α β γ : Type} (f : α → β) (g : Nat → β → γ) (l : List α) : (l.map f).mapIdx g = l.mapIdx fun i x => g i (f x) := by
  apply List.ext_getElem?
  intro i
  simp [List.getElem?_mapIdx, Function.comp_def]
mutual
theorem eqv_rfl' : ∀ d : PyData, d.canLay0 = true → PyData.eqv d d = true
  | .none, _ => by simp [PyData.eqv]
  | .bool b, _ => by simp [PyData.eqv]
  | .int i, _ => by simp [PyData.eqv]
  | .str x, _ => by simp [PyData.eqv]
  | .list xs, h => by
    have h' : PyData.canLayAll0 xs = true := by simpa [PyData.canLay0] using h
    simpa [PyData.eqv] using eqvs_rfl' xs h'
  | .tuple xs, h => by
    have h' : PyData.canLayAll0 xs = true := by simpa [PyData.canLay0] using h
    simpa [PyData.eqv] using eqvs_rfl' xs h'
  | .dict kvs, h => by simp [PyData.canLay0] at h
theorem eqvs_rfl' : ∀ ds : List PyData, PyData.canLayAll0 ds = true → PyData.eqvAll ds ds = true
  | [], _ => by simp [PyData.eqvAll]
  | d :: ds, h => by
    have h' : d.canLay0 = true ∧ PyData.canLayAll0 ds = true := by simpa [PyData.canLayAll0] using h
    simp [PyData.eqvAll, eqv_rfl' d h'.1, eqvs_rfl' ds h'.2]
end
theorem lay_ps : ∀ ps : List P3, PyData.canLayAll0 (ps.map dp) = true
  | [] => by simp [PyData.canLayAll0]
  | p :: ps => by simp [PyData.canLayAll0, PyData.canLay0, lay_ps ps]
theorem dep_ps : ∀ ps : List P3, PyData.depthAll (ps.map dp) ≤ 1
  | [] => by simp [PyData.depthAll]
  | p :: ps => by
    have := dep_ps ps
    simp [PyData.depthAll, PyData.depth]
    omega
theorem shaped_ps (ps : List P3) : SeqAt.shaped (.tuple (ps.map dp)) = true := by
  have := dep_ps ps
  simp [SeqAt.shaped, PyData.canLay0, lay_ps, PyData.depth]
  omega
section
variable {P : Program} {w : World} {K : PySem.W.Frag} {mg : Str → Option Value} {base : Heap} (T : Blt K mg)
include T
theorem ok_chain (D : DefOk K mg "chain" s_chain p_chain) (o_is_left : OkF P w K mg base 1 "is_left" s_is_left p_is_left (spD K R_is_left)) : OkF P w K mg base 2 "chain" s_chain p_chain (spD K R_chain) := by
  refine ok_of D c_chain (fun ds d h => ?_) (fun cdv A outer s H0 E hr => ⟨_, (pss_cons (ps_set (i := 1) c_chain.nd rfl (by first | exact Or.inl rfl | exact Or.inr rfl) (pe_lst pa_nil))
    (pss_cons (ps_for PassesOwn.never rfl (pi_list (pv 0)) (pg_name (i := 2) c_chain.nd rfl (by first | exact Or.inl rfl | exact Or.inr rfl)) (pss_cons (ps_while PassesOwn.never (PW.pt (pw_and (pt_cmpR op_gt (pe_callB call_len_seq (by rfl) T.len bb_len (pa_cons (pv 1) pa_nil)) pe_int (nomark _)) (pw_and1 (pt_not (pt_val (pe_own o_is_left (hr.mono (by decide)) (by rfl) (pa_cons (pe_ix ix_list (pv 1) (pe_un un_neg pe_int) (fun _ _ => rfl)) (pa_cons (pe_ix ix_list (pv 1) (pe_un un_neg pe_int) (fun _ _ => rfl)) (pa_cons (pv 2) pa_nil))))))))) (pss_one (ps_expr (pe_bm0 PySem.F.plainAttrs_list PySem.F.slot_list_pop PySem.F.type_list_pop mt_pop (pv 1)))))
    (pss_one (ps_expr (pe_bm PySem.F.plainAttrs_list PySem.F.slot_list_append PySem.F.type_list_append mt_append (pv 1) (pa_cons (pv 2) pa_nil))))))
    (pss_one (ps_ret (pv 1))))), fun ds d h => ?_⟩)
  · obtain ⟨o, rfl, _⟩ := h; rfl
  · obtain ⟨rows, rfl, hn, hsm, rfl⟩ := h
    refine st_chain hn fun st r hst hr' => ?_
    cases st with
    | nil => exact Et.is (et_and (p := false) (Et.is (et_test (ed_gt (ed_lenL ed_var rfl) ed_int)) rfl) (q := false) fun z => nomatch z) rfl
    | cons b t =>
      cases t with
      | nil => exact Et.is (et_and (p := false) (Et.is (et_test (ed_gt (ed_lenL ed_var rfl) ed_int)) rfl) (q := false) fun z => nomatch z) rfl
      | cons a t =>
        have e : ((b :: a :: t).reverse.map dq) = (t.reverse.map dq) ++ [dq a] ++ [dq b] := by simp
        have l2 : ((b :: a :: t).reverse.map dq).length = t.length + 2 := by simp
        refine Et.is (et_and (p := true) (Et.is (et_test (ed_gt (ed_lenL ed_var (by rw [l2])) ed_int)) (decide_eq_true (by omega))) fun _ => et_not (et_B (ed_call (ea_cons (ed_ixL ed_var (ed_neg ed_int) ?_) (ea_cons (ed_ixL ed_var (ed_neg ed_int) ?_) (ea_cons ed_var ea_nil))) ⟨a, b, r, rfl, hsm a (hst a (by simp)), hsm b (hst b (by simp)), hsm r hr', rfl⟩))) rfl
        · rw [e]
          unfold atI ixN
          have hl : (t.reverse.map dq ++ [dq a] ++ [dq b]).length = t.length + 2 := by simp
          rw [hl, if_neg (by decide), if_pos (by omega)]
          have e3 : (-2 + ((t.length + 2 : Nat) : Int)).toNat = t.length := by omega
          show (t.reverse.map dq ++ [dq a] ++ [dq b])[(-2 + ((t.length + 2 : Nat) : Int)).toNat]? = _
          rw [e3, List.append_assoc, List.getElem?_append_right (by simp)]
          simp
        · rw [e]
          exact atI_last _ _
theorem ok_sides (D : DefOk K mg "sides" s_sides p_sides) (o_side_left : OkF P w K mg base 4 "side_left" s_side_left p_side_left (spD K R_side_left)) (o_next_corner : OkF P w K mg base 1 "next_corner" s_next_corner p_next_corner (spD K R_next_corner)) : OkF P w K mg base 5 "sides" s_sides p_sides (spD K R_sides) := by
  refine ok_of D c_sides (fun ds d h => ?_) (fun cdv A outer s H0 E hr => ⟨_, (pss_cons (ps_if (pt_cmpR op_eq (pe_callB call_len_seq (by rfl) T.len bb_len (pa_cons (pv 0) pa_nil)) pe_int (nomark _)) pss_never pss_nil)
    (pss_cons (ps_if (pt_cmpR op_eq (pe_callB call_len_seq (by rfl) T.len bb_len (pa_cons (pv 0) pa_nil)) pe_int (nomark _)) pss_never pss_nil)
    (pss_one (ps_ret (pe_callTy call_tuple_of (by rfl) T.tuple bb_tuple (pa_cons (pe_lc (own := [("at", 5), ("corner", 6)]) (g := gTup K 2 (gCons (gName 5) (gCons (gName 6) (gNil)))) (tt := tYes) rfl c_sides.nd (pi_enumT (by rfl) T.enumerate (pa_cons (pv 0) pa_nil)) (blkOk_by (N := n_sides) (sc := defScope s_sides) (by decide +kernel)) (fun _ _ _ _ _ => (pg_tup rfl (pgs_cons (pg_name (i := 5) c_sides.nd rfl (by first | exact Or.inl rfl | exact Or.inr rfl)) (pgs_cons (pg_name (i := 6) c_sides.nd rfl (by first | exact Or.inl rfl | exact Or.inr rfl)) pgs_nil)))) (fun _ _ _ _ _ => pts_nil) (fun _ _ _ _ _ => (pe_own o_side_left (hr.mono (by decide)) (by rfl) (pa_cons (pv 6) (pa_cons (pe_own o_next_corner (hr.mono (by decide)) (by rfl) (pa_cons (pv 0) (pa_cons (pv 5) pa_nil))) pa_nil))))) pa_nil)))))), fun ds d h => ?_⟩)
  · obtain ⟨o, rfl, _⟩ := h; rfl
  · obtain ⟨ps, rfl, hp, rfl⟩ := h
    have hl := hp.len
    refine st_seq (sn_not (Et.is (et_test (ed_eqI (ed_lenT ed_var rfl) ed_int)) (decide_eq_false (by rw [List.length_map]; omega)))) (st_seq (sn_not (Et.is (et_test (ed_eqI (ed_lenT ed_var rfl) ed_int)) (decide_eq_false (by rw [List.length_map]; omega)))) (st_ret (Ed.is (ed_cb (ea_cons (ed_lcE (fun i d => on3 (fun p => dp (sdL p (nxt ps i))) d) (ea_cons ed_var ea_nil) (by rw [List.length_map]; omega) fun i d hi => ?_) ea_nil) bc_tuple) ?_)))
    · rw [List.getElem?_map] at hi
      cases e : ps[i]? with
      | none => rw [e] at hi; cases hi
      | some p =>
        rw [e] at hi
        cases hi
        have lt : i < ps.length := (List.getElem?_eq_some_iff.mp e).1
        have mem : p ∈ ps := List.mem_of_getElem? e
        refine ⟨_, gd_tup (gs_cons (gd_in (by decide)) (gs_cons (gd_in (by decide)) gs_nil)), ed_call (ea_cons ed_var (ea_cons (ed_call (ea_cons ed_var (ea_cons ed_var ea_nil)) ⟨ps, i, rfl, lt, rfl⟩) ea_nil)) ⟨p, nxt ps i, rfl, hp.small p mem, hp.small _ (nxt_mem lt), hp.ok i p e, rfl⟩⟩
    · unfold sd
      rw [map_mapIdx', mapIdx_map']
      rfl
theorem ok_has (D : DefOk K mg "has" s_has p_has) (o_are_held : OkF P w K mg base 2 "are_held" s_are_held p_are_held (spD K R_are_held)) (o_sides : OkF P w K mg base 5 "sides" s_sides p_sides (spD K R_sides)) : OkF P w K mg base 6 "has" s_has p_has (spD K R_has) := by
  refine ok_of D c_has (fun ds d h => ?_) (fun cdv A outer s H0 E hr => ⟨_, (pss_one (ps_ret (pe_own o_are_held (hr.mono (by decide)) (by rfl) (pa_cons (pe_own o_sides (hr.mono (by decide)) (by rfl) (pa_cons (pv 0) pa_nil)) (pa_cons (pv 1) pa_nil))))), fun ds d h => ?_⟩)
  · obtain ⟨o, rfl, _⟩ := h; rfl
  · obtain ⟨ps, rfl, hp, rfl⟩ := h
    refine st_ret (ed_call (ea_cons (ed_call (ea_cons ed_var ea_nil) ⟨ps, rfl, hp, rfl⟩) (ea_cons ed_var ea_nil)) ⟨sd ps, (0, 0, 1), rfl, ?_, ⟨by decide, by decide, by decide⟩, rfl⟩)
    have := hp.len
    unfold sd
    rw [List.length_mapIdx]
    omega
theorem ok_support (D : DefOk K mg "support" s_support p_support) (o_is_lower : OkF P w K mg base 1 "is_lower" s_is_lower p_is_lower (spD K R_is_lower)) (o_along : OkF P w K mg base 4 "along" s_along p_along (spD K R_along)) : OkF P w K mg base 5 "support" s_support p_support (spD K R_support) := by
  refine ok_of D c_support (fun ds d h => ?_) (fun cdv A outer s H0 E hr => ⟨_, (pss_cons (ps_set (i := 2) c_support.nd rfl (by first | exact Or.inl rfl | exact Or.inr rfl) (pe_own o_along (hr.mono (by decide)) (by rfl) (pa_cons (pv 1) (pa_cons (pe_ix ix_tup (pv 0) pe_int (fun _ _ => rfl)) pa_nil))))
    (pss_cons (ps_for PassesOwn.never rfl (pi_tup (pv 0)) (pg_name (i := 3) c_support.nd rfl (by first | exact Or.inl rfl | exact Or.inr rfl)) (pss_cons (ps_set (i := 4) c_support.nd rfl (by first | exact Or.inl rfl | exact Or.inr rfl) (pe_own o_along (hr.mono (by decide)) (by rfl) (pa_cons (pv 1) (pa_cons (pv 3) pa_nil))))
    (pss_one (ps_if (pt_val (pe_own o_is_lower (hr.mono (by decide)) (by rfl) (pa_cons (pv 2) (pa_cons (pv 4) pa_nil)))) (pss_one (ps_set (i := 2) c_support.nd rfl (by first | exact Or.inl rfl | exact Or.inr rfl) (pv 4))) pss_nil))))
    (pss_one (ps_ret (pv 2))))), fun ds d h => ?_⟩)
  · obtain ⟨o, n, rfl, _⟩ := h; rfl
  · obtain ⟨ps, n, rfl, hne, hn, hp, rfl⟩ := h
    have h0 : 0 < ps.length := List.length_pos_iff.mpr hne
    have hb : ∀ i, 0 < (((ps.take i).foldl (fun b p => if lowerQ b (al n p) then al n p else b) (al n (ps.getD 0 (0, 0, 0))))).2 ∧ ((ps.take i).foldl (fun b p => if lowerQ b (al n p) then al n p else b) (al n (ps.getD 0 (0, 0, 0)))).2 < 1024 := by
      have z : ∀ (l : List P3) (b : Pt), (∀ p ∈ l, Sp3 p) → 0 < b.2 ∧ b.2 < 1024 → 0 < (l.foldl (fun b p => if lowerQ b (al n p) then al n p else b) b).2 ∧ (l.foldl (fun b p => if lowerQ b (al n p) then al n p else b) b).2 < 1024 := by
        intro l
        induction l with
        | nil => intro b _ h; exact h
        | cons p l ih =>
          intro b hl h
          refine ih _ (fun q hq => hl q (List.mem_cons_of_mem _ hq)) ?_
          dsimp only
          split
          · exact al_den (hl p List.mem_cons_self)
          · exact h
      intro i
      exact z _ _ (fun p hp' => hp p (List.mem_of_mem_take hp')) (al_den (hp _ (getD_mem h0)))
    refine st_seq (sn_asg (ed_call (ea_cons ed_var (ea_cons (ed_ixT ed_var ed_int (at_map (j := 0) (f := dp) (p := ps.getD 0 (0, 0, 0)) (by rw [List.getD_eq_getElem?_getD, List.getElem?_eq_getElem h0]; rfl))) ea_nil)) ⟨n, _, rfl, hp _ (getD_mem h0), rfl⟩)) (st_seq (sn_forT (ds := ps.map dp) (fun i => [some (.tuple (ps.map dp)), some (dq n), some (dq ((ps.take i).foldl (fun b p => if lowerQ b (al n p) then al n p else b) (al n (ps.getD 0 (0, 0, 0))))), none, none]) ed_var enle_refl fun i d hi => ?_) (st_ret ?_))
    · rw [List.getElem?_map] at hi
      cases e : ps[i]? with
      | none => rw [e] at hi; cases hi
      | some p =>
        rw [e] at hi
        cases hi
        have mem : p ∈ ps := List.mem_of_getElem? e
        refine ⟨_, gn_name, sn_seq (sn_asg (ed_call (ea_cons ed_var (ea_cons ed_var ea_nil)) ⟨n, p, rfl, hp p mem, rfl⟩)) ?_⟩
        generalize hB : (ps.take i).foldl (fun b p => if lowerQ b (al n p) then al n p else b) (al n (ps.getD 0 (0, 0, 0))) = B
        have hBd := hb i
        rw [hB] at hBd
        have hA := al_den (n := n) (hp p mem)
        have en : (ps.take (i + 1)).foldl (fun b p => if lowerQ b (al n p) then al n p else b) (al n (ps.getD 0 (0, 0, 0))) = if lowerQ B (al n p) then al n p else B := by
          rw [List.take_add_one, e, List.foldl_append, hB]; rfl
        rw [en]
        refine sn_if (et_B (ed_call (ea_cons ed_var (ea_cons ed_var ea_nil)) ⟨B, al n p, rfl, ⟨hBd.1, by omega⟩, ⟨hA.1, by omega⟩, rfl⟩)) (fun h => ?_) (fun h => ?_)
        · rw [if_pos h]
          refine sn_le (sn_asg ed_var) ⟨rfl, fun j d q => ?_⟩
          match j, q with
          | 0, q => exact q
          | 1, q => exact q
          | 2, q => exact q
          | 3, q => cases q
          | 4, q => cases q
        · rw [h, if_neg Bool.false_ne_true]
          refine sn_le sn_next ⟨rfl, fun j d q => ?_⟩
          match j, q with
          | 0, q => exact q
          | 1, q => exact q
          | 2, q => exact q
          | 3, q => cases q
          | 4, q => cases q
    · have e : ps.take (ps.map dp).length = ps := by rw [List.length_map, List.take_length]
      rw [e]
      exact ed_var
end
end Wf
set_option Elab.async false
set_option linter.all false
set_option maxRecDepth 100000
set_option maxHeartbeats 4000000
/-! the hull, the checks, the two functions asked -/
namespace Wf
open PySem PySem.Spec PyProof.Rows L2
local macro_rules | `(tactic| walk_at "mul") => `(tactic| ((try dsimp only); first | exact Or.inl (by omega) | exact Or.inr (by omega)))
local macro_rules | `(tactic| walk_at "ed") => `(tactic| first
  | exact ed_var
  | exact ed_int
  | exact ed_bl
  | exact ed_str
  | (apply ed_add <;> walk_at "ed")
  | (apply ed_sub <;> walk_at "ed")
  | (apply ed_mul <;> first | walk_at "ed" | walk_at "mul")
  | (apply ed_neg <;> walk_at "ed")
  | (apply ed_ixT <;> first | walk_at "ed" | rfl)
  | (apply ed_lt <;> walk_at "ed")
  | (apply ed_le <;> walk_at "ed")
  | (apply ed_gt <;> walk_at "ed")
  | (apply ed_ge <;> walk_at "ed")
  | (apply ed_eqI <;> walk_at "ed")
  | (apply ed_tup <;> first | walk_at "ea" | exact Nat.le_of_ble_eq_true rfl))
local macro_rules | `(tactic| walk_at "ea") => `(tactic| first
  | exact ea_nil
  | (apply ea_cons <;> first | walk_at "ed" | walk_at "ea"))
/-! ### mirrors -/
structure Fig (ps : List P3) : Prop where
  pre : HPre ps
  vec : ∀ p ∈ ps, cdiv [p.1, p.2.1, p.2.2] = 1
  hull : hul ps = ps
  sp : SPre ps
  in0 : ∀ s ∈ sd ps, valAt s (0, 0, 1) ≤ 0
def figD (ps : List P3) : PyData := .tuple (ps.map dp)
def R_is_sailed (ds : List PyData) (d : PyData) : Prop := ∃ ps : List P3, ds = [figD ps] ∧ Fig ps ∧ d = .bool true
def R_check_figure (ds : List PyData) (d : PyData) : Prop := ∃ ps : List P3, ds = [figD ps] ∧ Fig ps ∧ d = .none
def VecOk (p : P3) : Prop := 0 < p.2.2 ∧ cdiv [p.1, p.2.1, p.2.2] = 1
def SideOk (p : P3) : Prop := ¬ (p.1 = 0 ∧ p.2.1 = 0) ∧ cdiv [p.1, p.2.1, p.2.2] = 1
def R_check_point (ds : List PyData) (d : PyData) : Prop := ∃ p : P3, ds = [dp p] ∧ VecOk p ∧ d = .none
def R_check_side (ds : List PyData) (d : PyData) : Prop := ∃ p : P3, ds = [dp p] ∧ SideOk p ∧ d = .none
def R_check_drift (ds : List PyData) (d : PyData) : Prop := ∃ (ps : List P3) (st sh : P3), ds = [figD ps, dp st, dp sh] ∧ Fig ps ∧ VecOk st ∧ SideOk sh ∧ d = .none
def rp (p q : Pt) : Pt := red (p.1 * q.1) (p.2 * q.2)
/-- what the two functions are asked of -/
structure Ask (ps : List P3) (st sh : P3) : Prop where
  fig : Fig ps
  vst : VecOk st
  sts : (-1024 < st.1 ∧ st.1 < 1024) ∧ (-1024 < st.2.1 ∧ st.2.1 < 1024) ∧ st.2.2 < 100
  vsh : SideOk sh
  shs : (-1024 < sh.1 ∧ sh.1 < 1024) ∧ (-1024 < sh.2.1 ∧ sh.2.1 < 1024)
def drf (st sh : P3) : Pt := al (sh.1, sh.2.1) st
def nrm (sh : P3) (wd : Pt) : Pt := (-sh.1 * wd.1 - sh.2.1 * wd.2, sh.1 * wd.2 - sh.2.1 * wd.1)
def hiw (ps : List P3) (st sh : P3) (wd : Pt) : Bool := if (drf st sh).1 ≤ 0 then true else !lowerQ (rp (supp (nrm sh wd) ps) (supp (nrm sh wd) ps)) (rp (rp (drf st sh) (drf st sh)) (wd.1 * wd.1 + wd.2 * wd.2, 1))
def R_holds_in_wind (ds : List PyData) (d : PyData) : Prop := ∃ (ps : List P3) (st sh : P3) (wd : Pt), ds = [figD ps, dp st, dp sh, dq wd] ∧ Ask ps st sh ∧ cdiv [wd.1, wd.2] = 1 ∧ ((-1024 < wd.1 ∧ wd.1 < 1024) ∧ (-1024 < wd.2 ∧ wd.2 < 1024)) ∧ d = .bool (hiw ps st sh wd)
def allS (ps : List P3) (st sh : P3) : Bool := (sd ps).all fun s => decide ((drf st sh).1 * (drf st sh).1 * (s.1 * s.1 + s.2.1 * s.2.1) ≤ s.2.2 * s.2.2 * ((drf st sh).2 * (drf st sh).2 * (sh.1 * sh.1 + sh.2.1 * sh.2.1)))
def anyC (ps : List P3) (st sh : P3) : Bool := ps.any fun p => decide ((drf st sh).1 * (drf st sh).1 * p.2.2 * p.2.2 ≤ (drf st sh).2 * (drf st sh).2 * (sh.1 * sh.1 + sh.2.1 * sh.2.1) * (p.1 * p.1 + p.2.1 * p.2.1))
def wof (ps : List P3) (st sh : P3) : Str := if (drf st sh).1 ≤ 0 then "all" else if allS ps st sh then "all" else if anyC ps st sh then "some" else "none"
def R_winds_off (ds : List PyData) (d : PyData) : Prop := ∃ (ps : List P3) (st sh : P3), ds = [figD ps, dp st, dp sh] ∧ Ask ps st sh ∧ d = .str (wof ps st sh)
/-! ### sizes -/
theorem abs_div (a b : Int) : (a / b).natAbs ≤ a.natAbs := Int.natAbs_ediv_le_natAbs a b
theorem al_num (n : Pt) (p : P3) : (al n p).1.natAbs ≤ (n.1 * p.1 + n.2 * p.2.1).natAbs := abs_div _ _
theorem mul_bd {a b : Int} {A B : Nat} (ha : a.natAbs ≤ A) (hb : b.natAbs ≤ B) : (a * b).natAbs ≤ A * B := by
  rw [Int.natAbs_mul]
  exact Nat.mul_le_mul ha hb
theorem bd_of {a : Int} {A : Nat} (h : a.natAbs ≤ A) (hA : A < 2 ^ 64) : -(2 ^ 64) < a ∧ a < 2 ^ 64 := by
  have : ((2 : Int) ^ 64) = ((2 ^ 64 : Nat) : Int) := by norm_cast
  omega
theorem supp_al (n : Pt) (ps : List P3) (hne : ps ≠ []) : ∃ p ∈ ps, supp n ps = al n p := by
  have h0 : 0 < ps.length := List.length_pos_iff.mpr hne
  have z : ∀ (l : List P3) (b : Pt), (∃ p ∈ ps, b = al n p) → (∀ p ∈ l, p ∈ ps) → ∃ p ∈ ps, l.foldl (fun b p => if lowerQ b (al n p) then al n p else b) b = al n p := by
    intro l
    induction l with
    | nil => intro b hb _; exact hb
    | cons p l ih =>
      intro b hb hl
      refine ih _ ?_ fun q hq => hl q (List.mem_cons_of_mem _ hq)
      dsimp only
      split
      · exact ⟨p, hl p List.mem_cons_self, rfl⟩
      · exact hb
  exact z ps _ ⟨_, getD_mem h0, rfl⟩ fun p hp => hp
theorem rp_den {p q : Pt} {m n : Int} (hp : 0 < p.2 ∧ p.2 ≤ m) (hq : 0 < q.2 ∧ q.2 ≤ n) : 0 < (rp p q).2 ∧ (rp p q).2 ≤ m * n := by
  have h0 : 0 < p.2 * q.2 := Int.mul_pos hp.1 hq.1
  have h1 := cd_pos (o := p.1 * q.1) h0
  have h2 : cdiv [p.1 * q.1, p.2 * q.2] ∣ p.2 * q.2 := by
    rw [cdiv2]
    have z := Nat.gcd_dvd_right (p.1 * q.1).natAbs (p.2 * q.2).natAbs
    exact Int.natAbs_dvd_natAbs.mp (by rw [Int.natAbs_natCast]; exact z)
  show 0 < p.2 * q.2 / cdiv [p.1 * q.1, p.2 * q.2] ∧ p.2 * q.2 / cdiv [p.1 * q.1, p.2 * q.2] ≤ m * n
  refine ⟨Int.ediv_pos_of_pos_of_dvd h0 (Int.le_of_lt h1.1) h2, ?_⟩
  have h3 := Int.ediv_le_self (cdiv [p.1 * q.1, p.2 * q.2]) (Int.le_of_lt h0)
  have h4 : p.2 * q.2 ≤ m * q.2 := Int.mul_le_mul_of_nonneg_right hp.2 (Int.le_of_lt hq.1)
  have h5 : m * q.2 ≤ m * n := Int.mul_le_mul_of_nonneg_left hq.2 (Int.le_of_lt (Int.lt_of_lt_of_le hp.1 hp.2))
  omega
theorem Ask.sp {ps : List P3} {st sh : P3} (h : Ask ps st sh) : Sp3 st := ⟨by have := h.sts; omega, by have := h.sts; omega, ⟨h.vst.1, by have := h.sts; omega⟩⟩
theorem drf_bd {ps : List P3} {st sh : P3} (h : Ask ps st sh) : (drf st sh).1.natAbs ≤ 2097152 ∧ 0 < (drf st sh).2 ∧ (drf st sh).2 < 100 := by
  obtain ⟨a, b, c⟩ := h.sts
  obtain ⟨d, e⟩ := h.shs
  have h1 := al_num (sh.1, sh.2.1) st
  have h2 := mul_bd (a := sh.1) (b := st.1) (A := 1023) (B := 1023) (by omega) (by omega)
  have h3 := mul_bd (a := sh.2.1) (b := st.2.1) (A := 1023) (B := 1023) (by omega) (by omega)
  have h4 := al_den (n := (sh.1, sh.2.1)) h.sp
  have h5 : (al (sh.1, sh.2.1) st).2 ≤ st.2.2 := Int.ediv_le_self _ (Int.le_of_lt h.vst.1)
  unfold drf
  dsimp only at h1
  generalize sh.1 * st.1 = X at h1 h2
  generalize sh.2.1 * st.2.1 = Y at h1 h3
  refine ⟨by omega, h4.1, by omega⟩
theorem nrm_bd {ps : List P3} {st sh : P3} {wd : Pt} (h : Ask ps st sh) (hw : (-1024 < wd.1 ∧ wd.1 < 1024) ∧ (-1024 < wd.2 ∧ wd.2 < 1024)) : (nrm sh wd).1.natAbs ≤ 2097152 ∧ (nrm sh wd).2.natAbs ≤ 2097152 := by
  obtain ⟨d, e⟩ := h.shs
  obtain ⟨f, g⟩ := hw
  have h1 := mul_bd (a := -sh.1) (b := wd.1) (A := 1023) (B := 1023) (by omega) (by omega)
  have h2 := mul_bd (a := sh.2.1) (b := wd.2) (A := 1023) (B := 1023) (by omega) (by omega)
  have h3 := mul_bd (a := sh.1) (b := wd.2) (A := 1023) (B := 1023) (by omega) (by omega)
  have h4 := mul_bd (a := sh.2.1) (b := wd.1) (A := 1023) (B := 1023) (by omega) (by omega)
  unfold nrm
  dsimp only
  generalize -sh.1 * wd.1 = X1 at h1 ⊢
  generalize sh.2.1 * wd.2 = X2 at h2 ⊢
  generalize sh.1 * wd.2 = X3 at h3 ⊢
  generalize sh.2.1 * wd.1 = X4 at h4 ⊢
  omega
theorem far_bd {ps : List P3} {st sh : P3} {wd : Pt} (h : Ask ps st sh) (hw : (-1024 < wd.1 ∧ wd.1 < 1024) ∧ (-1024 < wd.2 ∧ wd.2 < 1024)) : (supp (nrm sh wd) ps).1.natAbs ≤ 4294967296 ∧ 0 < (supp (nrm sh wd) ps).2 ∧ (supp (nrm sh wd) ps).2 < 1024 := by
  obtain ⟨p, hp, e⟩ := supp_al (nrm sh wd) ps h.fig.pre.ne
  rw [e]
  obtain ⟨n1, n2⟩ := nrm_bd h hw
  obtain ⟨a, b, c⟩ := h.fig.pre.small p hp
  have h1 := al_num (nrm sh wd) p
  have h2 := mul_bd (a := (nrm sh wd).1) (b := p.1) (A := 2097152) (B := 1023) n1 (by omega)
  have h3 := mul_bd (a := (nrm sh wd).2) (b := p.2.1) (A := 2097152) (B := 1023) n2 (by omega)
  have h4 := al_den (n := nrm sh wd) (h.fig.sp.small p hp)
  generalize (nrm sh wd).1 * p.1 = X at h1 h2
  generalize (nrm sh wd).2 * p.2.1 = Y at h1 h3
  exact ⟨by omega, h4⟩
theorem sd_bd {ps : List P3} (h : Fig ps) {s : P3} (hs : s ∈ sd ps) : s.1.natAbs ≤ 2 ^ 50 ∧ s.2.1.natAbs ≤ 2 ^ 50 ∧ s.2.2.natAbs ≤ 2 ^ 50 := by
  obtain ⟨i, hi, e⟩ := List.mem_mapIdx.mp hs
  have hp : ps[i] ∈ ps := List.getElem_mem hi
  have hq : nxt ps i ∈ ps := nxt_mem hi
  rw [← e]
  generalize ps[i] = p at hp
  generalize nxt ps i = q at hq
  obtain ⟨a, b, c⟩ := h.pre.small p hp
  obtain ⟨a', b', c'⟩ := h.pre.small q hq
  have w := h.pre.w_ok hp
  have w' := h.pre.w_ok hq
  have k1 := mul_bd (a := q.1) (b := p.2.2) (A := 1023) (B := 1000) (by omega) (by omega)
  have k2 := mul_bd (a := p.1) (b := q.2.2) (A := 1023) (B := 1000) (by omega) (by omega)
  have k3 := mul_bd (a := q.2.1) (b := p.2.2) (A := 1023) (B := 1000) (by omega) (by omega)
  have k4 := mul_bd (a := p.2.1) (b := q.2.2) (A := 1023) (B := 1000) (by omega) (by omega)
  have u : (stp p q).1.natAbs ≤ 2046000 := by
    unfold stp
    dsimp only
    generalize q.1 * p.2.2 = X at k1 ⊢
    generalize p.1 * q.2.2 = Y at k2 ⊢
    omega
  have v : (stp p q).2.natAbs ≤ 2046000 := by
    unfold stp
    dsimp only
    generalize q.2.1 * p.2.2 = X at k3 ⊢
    generalize p.2.1 * q.2.2 = Y at k4 ⊢
    omega
  have m1 := mul_bd (a := (stp p q).2) (b := p.2.2) (A := 2046000) (B := 1000) v (by omega)
  have m2 := mul_bd (a := -(stp p q).1) (b := p.2.2) (A := 2046000) (B := 1000) (by omega) (by omega)
  have m3 := mul_bd (a := (stp p q).2) (b := p.1) (A := 2046000) (B := 1023) v (by omega)
  have m4 := mul_bd (a := -(stp p q).1) (b := p.2.1) (A := 2046000) (B := 1023) (by omega) (by omega)
  unfold sdL sdAt red3
  dsimp only
  refine ⟨Nat.le_trans (abs_div _ _) (Nat.le_trans m1 (by decide)), Nat.le_trans (abs_div _ _) (Nat.le_trans m2 (by decide)), Nat.le_trans (abs_div _ _) ?_⟩
  generalize (stp p q).2 * p.1 = X at m3 ⊢
  generalize -(stp p q).1 * p.2.1 = Y at m4 ⊢
  have : (2 : Nat) ^ 50 = 1125899906842624 := by decide
  omega
section
variable {P : Program} {w : World} {K : PySem.W.Frag} {mg : Str → Option Value} {base : Heap} (T : Blt K mg)
include T
theorem ok_hull (D : DefOk K mg "hull" s_hull p_hull) (o_lowest : OkF P w K mg base 2 "lowest" s_lowest p_lowest (spD K R_lowest)) (o_chain : OkF P w K mg base 2 "chain" s_chain p_chain (spD K R_chain)) : OkF P w K mg base 3 "hull" s_hull p_hull (spD K R_hull) := by
  refine ok_of D c_hull (fun ds d h => ?_) (fun cdv A outer s H0 E hr => ⟨_, (pss_cons (ps_set (i := 1) c_hull.nd rfl (by first | exact Or.inl rfl | exact Or.inr rfl) pe_int)
    (pss_cons (ps_for PassesOwn.never rfl (pi_list (pv 0)) (pg_name (i := 2) c_hull.nd rfl (by first | exact Or.inl rfl | exact Or.inr rfl)) (pss_one (ps_set (i := 1) c_hull.nd rfl (by first | exact Or.inl rfl | exact Or.inr rfl) (pe_callBfun cr_lcm (by rfl) T.lcm (pa_cons (pv 1) (pa_cons (pe_ix ix_tup (pv 2) pe_int (fun _ _ => rfl)) pa_nil))))))
    (pss_cons (ps_set (i := 3) c_hull.nd rfl (by first | exact Or.inl rfl | exact Or.inr rfl) (pe_callB (cr_sortedW rfl) (by rfl) T.sorted bb_sorted (pa_cons (pe_scT hr.units (own := [("x", 5), ("y", 6), ("w", 7)]) (g := gTup K 3 (gCons (gName 5) (gCons (gName 6) (gCons (gName 7) (gNil))))) (tt := tYes) rfl c_hull.nd (pi_list (pv 0)) (blkOk_by (N := n_hull) (sc := defScope s_hull) (by decide +kernel)) (fun _ _ _ _ _ => (pg_tup rfl (pgs_cons (pg_name (i := 5) c_hull.nd rfl (by first | exact Or.inl rfl | exact Or.inr rfl)) (pgs_cons (pg_name (i := 6) c_hull.nd rfl (by first | exact Or.inl rfl | exact Or.inr rfl)) (pgs_cons (pg_name (i := 7) c_hull.nd rfl (by first | exact Or.inl rfl | exact Or.inr rfl)) pgs_nil))))) (fun _ _ _ _ _ => pts_nil) (fun _ _ _ _ _ => (pe_tup (pa_cons (pe_op op_mul (pv 5) (pe_op op_fdiv (pv 1) (pv 7))) (pa_cons (pe_op op_mul (pv 6) (pe_op op_fdiv (pv 1) (pv 7))) pa_nil))))) pa_nil)))
    (pss_cons (ps_set (i := 4) c_hull.nd rfl (by first | exact Or.inl rfl | exact Or.inr rfl) (pe_ifExp (pt_cmpR op_eq (pe_callB call_len_seq (by rfl) T.len bb_len (pa_cons (pv 3) pa_nil)) pe_int (nomark _)) (pv 3) (pe_op op_catL (pe_slice sl_list (pe_own o_chain (hr.mono (by decide)) (by rfl) (pa_cons (pv 3) pa_nil)) po_none (po_some (pe_un un_neg pe_int))) (pe_slice sl_list (pe_own o_chain (hr.mono (by decide)) (by rfl) (pa_cons (pe_revL (pv 3)) pa_nil)) po_none (po_some (pe_un un_neg pe_int))))))
    (pss_one (ps_ret (pe_callTy call_tuple_of (by rfl) T.tuple bb_tuple (pa_cons (pe_lc (own := [("x", 5), ("y", 6)]) (g := gTup K 2 (gCons (gName 5) (gCons (gName 6) (gNil)))) (tt := tYes) rfl c_hull.nd (pi_list (pv 4)) (blkOk_by (N := n_hull) (sc := defScope s_hull) (by decide +kernel)) (fun _ _ _ _ _ => (pg_tup rfl (pgs_cons (pg_name (i := 5) c_hull.nd rfl (by first | exact Or.inl rfl | exact Or.inr rfl)) (pgs_cons (pg_name (i := 6) c_hull.nd rfl (by first | exact Or.inl rfl | exact Or.inr rfl)) pgs_nil)))) (fun _ _ _ _ _ => pts_nil) (fun _ _ _ _ _ => (pe_own o_lowest (hr.mono (by decide)) (by rfl) (pa_cons (pe_tup (pa_cons (pv 5) (pa_cons (pv 6) (pa_cons (pv 1) pa_nil)))) pa_nil)))) pa_nil)))))))), fun ds d h => ?_⟩)
  · obtain ⟨o, rfl, _⟩ := h; rfl
  · obtain ⟨ps, rfl, hp, rfl⟩ := h
    have hlen := hp.len
    obtain ⟨u0, u1⟩ := hp.und_ok ps fun _ z => z
    have hrows : (rowsOfP ps).length < 60 := by
      have := ssort_len (ps.map fun p => (p.1 * (und ps / p.2.2), p.2.1 * (und ps / p.2.2)))
      rw [List.length_map] at this
      unfold rowsOfP
      omega
    have hrm : ∀ r ∈ rowsOfP ps, Sm2 r := fun r hr' => by
      obtain ⟨p, hp', e⟩ := List.mem_map.mp ((mem_ssort r _).mp hr')
      rw [← e]
      exact hp.rows_sm hp'
    refine st_seq (sn_asg ed_int) (st_seq (sn_forL (ds := ps.map dp) (fun i => [some (.list (ps.map dp)), some (.int (und (ps.take i))), none, none, none, none, none, none]) ed_var enle_refl fun i d hi => ?_) ?_)
    · rw [List.getElem?_map] at hi
      cases e : ps[i]? with
      | none => rw [e] at hi; cases hi
      | some p =>
        rw [e] at hi
        cases hi
        have mem : p ∈ ps := List.mem_of_getElem? e
        obtain ⟨v0, v1⟩ := hp.und_ok (ps.take i) fun q hq => List.mem_of_mem_take hq
        have wk := hp.w_ok mem
        have en : und (ps.take (i + 1)) = ((Nat.lcm (und (ps.take i)).natAbs p.2.2.natAbs : Nat) : Int) := by
          unfold und
          rw [List.take_add_one, e, List.foldl_append]
          rfl
        refine ⟨_, gn_name, sn_le (sn_asg (ed_cb (ea_cons ed_var (ea_cons (ed_ixT ed_var ed_int rfl) ea_nil)) (bc_lcm (by omega) (by omega)))) ⟨rfl, fun j d q => ?_⟩⟩
        match j, q with
        | 0, q => exact q
        | 1, q => rw [en] at q; exact q
        | 2, q => cases q
        | 3, q => cases q
        | 4, q => cases q
        | 5, q => cases q
        | 6, q => cases q
        | 7, q => cases q
    · have eT : ps.take (ps.map dp).length = ps := by rw [List.length_map, List.take_length]
      rw [eT]
      refine st_seq (sn_asg (Ed.is (ed_sortset (fun d => match d with | .tuple [.int x, .int y, .int z] => (x * (und ps / z), y * (und ps / z)) | _ => (0, 0)) ed_var (by rw [List.length_map]; omega) (fun d hd => ?_) fun d hd => ?_) (show _ = PyData.list ((rowsOfP ps).map dq) from by rw [List.map_map]; rfl))) ?_
      · obtain ⟨p, hp', rfl⟩ := List.mem_map.mp hd
        exact hp.rows_sm hp'
      · obtain ⟨p, hp', rfl⟩ := List.mem_map.mp hd
        have wk := hp.w_ok hp'
        have sm := hp.small p hp'
        have dv : CDiv (und ps) p.2.2 := ⟨wk.1, by omega⟩
        refine ⟨_, gd_tup (gs_cons (gd_in (by decide)) (gs_cons (gd_in (by decide)) (gs_cons (gd_in (by decide)) gs_nil))), ed_tup (ea_cons (ed_mul ed_var (ed_fdiv ed_var ed_var dv) (Or.inl (by omega))) (ea_cons (ed_mul ed_var (ed_fdiv ed_var ed_var dv) (Or.inl (by omega))) ea_nil)) (Nat.le_of_ble_eq_true rfl)⟩
      · have cl := chn_len (rowsOfP ps)
        have cl2 := chn_len (rowsOfP ps).reverse
        rw [List.length_reverse] at cl2
        refine st_seq (sn_asg (d := .list ((hulR (rowsOfP ps)).map dq)) (ed_if (et_test (ed_eqI (ed_lenL ed_var rfl) ed_int)) (fun h => ?_) (fun h => ?_))) (st_ret (Ed.is (ed_cb (ea_cons (ed_lcL (onq fun x y => dp (red3 x y (und ps))) ed_var ?_ fun d hd => ?_) ea_nil) bc_tuple) ?_))
        · have h' := of_decide_eq_true h
          rw [List.length_map] at h'
          unfold hulR
          rw [if_pos (by omega)]
          exact ed_var
        · have h' := of_decide_eq_false h
          rw [List.length_map] at h'
          unfold hulR
          rw [if_neg (by omega)]
          refine Ed.is (ed_cat (ed_slL (ed_call (ea_cons ed_var ea_nil) ⟨rowsOfP ps, rfl, by omega, hrm, rfl⟩) eo_none (eo_some (ed_neg ed_int))) (ed_slL (ed_call (ea_cons (ed_revL ed_var) ea_nil) ⟨(rowsOfP ps).reverse, by rw [List.map_reverse], by rw [List.length_reverse]; omega, fun r hr' => hrm r (List.mem_reverse.mp hr'), rfl⟩) eo_none (eo_some (ed_neg ed_int))) ?_) ?_
          · rw [cut_last, cut_last]
            simp only [List.length_dropLast, List.length_map]
            omega
          · rw [cut_last, cut_last, List.map_append, List.map_dropLast, List.map_dropLast]
        · rw [List.length_map]
          unfold hulR
          split
          · omega
          · simp only [List.length_append, List.length_dropLast]
            omega
        · obtain ⟨q, hq, rfl⟩ := List.mem_map.mp hd
          have := cd3_pos (a := q.1) (b := q.2) u0
          refine ⟨_, gd_tup (gs_cons (gd_in (by decide)) (gs_cons (gd_in (by decide)) gs_nil)), ed_call (ea_cons (ed_tup (ea_cons ed_var (ea_cons ed_var (ea_cons ed_var ea_nil))) (Nat.le_of_ble_eq_true rfl)) ea_nil) ⟨[q.1, q.2, und ps], rfl, by simp, ⟨this.1, by omega⟩, rfl⟩⟩
        · unfold hul
          rw [List.map_map, List.map_map]
          rfl
theorem ok_is_shape (D : DefOk K mg "is_shape" s_is_shape p_is_shape) (o_hull : OkF P w K mg base 3 "hull" s_hull p_hull (spD K R_hull)) (o_is_vector : OkF P w K mg base 3 "is_vector" s_is_vector p_is_vector (spD K R_is_vector)) : OkF P w K mg base 4 "is_shape" s_is_shape p_is_shape (spD K R_is_shape) := by
  refine ok_of D c_is_shape (fun ds d h => ?_) (fun cdv A outer s H0 E hr => ⟨_, (pss_cons (ps_if (PW.pt (pw_or (pt_not (pt_val (pe_callB call_isi (by rfl) T.isinstance bb_isinstance (pa_cons (pv 0) (pa_cons (pe_bltn (v := .ty "tuple") (by rfl) T.tuple bb_tuple rfl) pa_nil))))) (pw_or (pt_cmpR (op_eqD hr.units) (pv 0) (pe_tup pa_nil) (nomark _)) (pw_or1 (pt_not (pt_val (pe_callB (cr_all rfl) (by rfl) T.all bb_all (pa_cons (pe_lc (own := [("corner", 1)]) (g := gName 1) (tt := tYes) rfl c_is_shape.nd (pi_tup (pv 0)) (blkOk_by (N := n_is_shape) (sc := defScope s_is_shape) (by decide +kernel)) (fun _ _ _ _ _ => (pg_name (i := 1) c_is_shape.nd rfl (by first | exact Or.inl rfl | exact Or.inr rfl))) (fun _ _ _ _ _ => pts_nil) (fun _ _ _ _ _ => (pe_own o_is_vector (hr.mono (by decide)) (by rfl) (pa_cons (pv 1) pa_nil)))) pa_nil)))))))) pss_never pss_nil)
    (pss_one (ps_ret (pe_cmpR (op_eqD hr.units) (pe_own o_hull (hr.mono (by decide)) (by rfl) (pa_cons (pe_callTy call_list_of (by rfl) T.list bb_list (pa_cons (pv 0) pa_nil)) pa_nil)) (pv 0) (nomark _))))), fun ds d h => ?_⟩)
  · obtain ⟨o, rfl, _⟩ := h; rfl
  · obtain ⟨ps, rfl, hp, hv, hh, rfl⟩ := h
    have hlen := hp.len
    have ne : PyData.eqv (.tuple (ps.map dp)) (.tuple []) = false := by
      cases ps with
      | nil => exact absurd rfl hp.ne
      | cons p ps => simp [PyData.eqv, PyData.eqvAll]
    have hall : ∀ p ∈ ps, (decide (0 < p.2.2) && decide (cdiv [p.1, p.2.1, p.2.2] = 1)) = true := fun p hp' => by
      rw [decide_eq_true (hp.small p hp').2.2, decide_eq_true (hv p hp')]; rfl
    have e1 : (ps.map dp).map (fun _ => PyData.bool true) = (ps.map fun _ => true).map PyData.bool := by rw [List.map_map, List.map_map]; rfl
    have z := bc_all (K := K) (bs := ps.map fun _ => true)
    rw [← e1] at z
    have e2 : (ps.map fun _ => true).all id = true := by simp
    refine st_seq (sn_not (Et.is (et_or (p := false) (q := false || false) (Et.is (et_not (et_B (ed_isi ed_var (.tup _) (r := true) (by decide +kernel)))) rfl) fun _ => et_or (Et.is (et_test (ed_eqD ed_var (ed_tup ea_nil (Nat.zero_le _)) (shaped_ps ps) (by decide +kernel))) ne) fun _ => Et.is (et_not (et_B (ed_cb (ea_cons (ed_lcT (fun _ => .bool true) ed_var (by rw [List.length_map]; omega) fun d hd => ?_) ea_nil) z))) (by rw [e2]; rfl)) rfl)) (st_ret (Ed.is (ed_eqD (ed_call (ea_cons (ed_cb (ea_cons ed_var ea_nil) bc_listT) ea_nil) ⟨ps, rfl, hp, rfl⟩) ed_var (shaped_ps _) (shaped_ps ps)) ?_))
    · obtain ⟨p, hp', rfl⟩ := List.mem_map.mp hd
      exact ⟨_, gd_in (by decide), ed_call (ea_cons ed_var ea_nil) ⟨p, rfl, by rw [hall p hp']⟩⟩
    · rw [hh, eqv_rfl' _ (by have z := shaped_ps ps; unfold SeqAt.shaped at z; exact (Bool.and_eq_true_iff.mp z).1)]
theorem ok_is_sailed (D : DefOk K mg "is_sailed" s_is_sailed p_is_sailed) (o_has : OkF P w K mg base 6 "has" s_has p_has (spD K R_has)) (o_is_shape : OkF P w K mg base 4 "is_shape" s_is_shape p_is_shape (spD K R_is_shape)) : OkF P w K mg base 7 "is_sailed" s_is_sailed p_is_sailed (spD K R_is_sailed) := by
  refine ok_of D c_is_sailed (fun ds d h => ?_) (fun cdv A outer s H0 E hr => ⟨_, (pss_one (ps_ret (pe_and (pe_own o_is_shape (hr.mono (by decide)) (by rfl) (pa_cons (pv 0) pa_nil)) (pe_and (pe_cmpR op_gt (pe_callB call_len_seq (by rfl) T.len bb_len (pa_cons (pv 0) pa_nil)) pe_int (nomark _)) (pe_one (pe_own o_has (hr.mono (by decide)) (by rfl) (pa_cons (pv 0) (pa_cons (pe_glob (v := .ref (He.ga K "NOUGHT")) (by rfl) T.nought rfl) pa_nil)))))))), fun ds d h => ?_⟩)
  · obtain ⟨o, rfl, _⟩ := h; rfl
  · obtain ⟨ps, rfl, hf, rfl⟩ := h
    have hl := hf.sp.len
    have hin : ((sd ps).all fun s => decide (valAt s (0, 0, 1) ≤ 0)) = true := List.all_eq_true.mpr fun s hs => decide_eq_true (hf.in0 s hs)
    exact st_ret (Ed.is (ed_andV (p := true) (q := true && true) (ed_call (ea_cons ed_var ea_nil) ⟨ps, rfl, hf.pre, hf.vec, hf.hull, rfl⟩) fun _ => ed_andV (Ed.is (ed_gt (ed_lenT ed_var rfl) ed_int) (congrArg PyData.bool (decide_eq_true (by rw [List.length_map]; omega)))) fun _ => ed_call (ea_cons ed_var (ea_cons (ed_nought T) ea_nil)) ⟨ps, rfl, hf.sp, by rw [hin]⟩) rfl)
theorem ok_check_figure (D : DefOk K mg "check_figure" s_check_figure p_check_figure) (o_is_sailed : OkF P w K mg base 7 "is_sailed" s_is_sailed p_is_sailed (spD K R_is_sailed)) : OkF P w K mg base 8 "check_figure" s_check_figure p_check_figure (spD K R_check_figure) := by
  refine ok_ofN D c_check_figure (fun ds d h => ?_) (fun cdv A outer s H0 E hr => ⟨_, (pss_one (ps_if (pt_not (pt_val (pe_own o_is_sailed (hr.mono (by decide)) (by rfl) (pa_cons (pv 0) pa_nil)))) pss_never pss_nil)), fun ds d h => ?_⟩)
  · obtain ⟨o, rfl, _⟩ := h; rfl
  · obtain ⟨ps, rfl, hf, rfl⟩ := h
    exact ⟨rfl, _, sn_not (Et.is (et_not (et_B (ed_call (ea_cons ed_var ea_nil) ⟨ps, rfl, hf, rfl⟩))) rfl)⟩
theorem ok_check_point (D : DefOk K mg "check_point" s_check_point p_check_point) (o_is_vector : OkF P w K mg base 3 "is_vector" s_is_vector p_is_vector (spD K R_is_vector)) : OkF P w K mg base 4 "check_point" s_check_point p_check_point (spD K R_check_point) := by
  refine ok_ofN D c_check_point (fun ds d h => ?_) (fun cdv A outer s H0 E hr => ⟨_, (pss_one (ps_if (pt_not (pt_val (pe_own o_is_vector (hr.mono (by decide)) (by rfl) (pa_cons (pv 0) pa_nil)))) pss_never pss_nil)), fun ds d h => ?_⟩)
  · obtain ⟨o, rfl, _⟩ := h; rfl
  · obtain ⟨p, rfl, hf, rfl⟩ := h
    refine ⟨rfl, _, sn_not (Et.is (et_not (et_B (ed_call (ea_cons ed_var ea_nil) ⟨p, rfl, rfl⟩))) ?_)⟩
    rw [decide_eq_true hf.1, decide_eq_true hf.2]; rfl
theorem ok_check_side (D : DefOk K mg "check_side" s_check_side p_check_side) (o_is_border : OkF P w K mg base 3 "is_border" s_is_border p_is_border (spD K R_is_border)) : OkF P w K mg base 4 "check_side" s_check_side p_check_side (spD K R_check_side) := by
  refine ok_ofN D c_check_side (fun ds d h => ?_) (fun cdv A outer s H0 E hr => ⟨_, (pss_one (ps_if (pt_not (pt_val (pe_own o_is_border (hr.mono (by decide)) (by rfl) (pa_cons (pv 0) pa_nil)))) pss_never pss_nil)), fun ds d h => ?_⟩)
  · obtain ⟨o, rfl, _⟩ := h; rfl
  · obtain ⟨p, rfl, hf, rfl⟩ := h
    refine ⟨rfl, _, sn_not (Et.is (et_not (et_B (ed_call (ea_cons ed_var ea_nil) ⟨p, rfl, rfl⟩))) ?_)⟩
    have e : (decide (p.1 = 0) && decide (p.2.1 = 0)) = false := by
      rw [← Bool.decide_and]
      exact decide_eq_false hf.1
    rw [e, decide_eq_true hf.2]; rfl
theorem ok_check_drift (D : DefOk K mg "check_drift" s_check_drift p_check_drift) (o_check_side : OkF P w K mg base 4 "check_side" s_check_side p_check_side (spD K R_check_side)) (o_check_point : OkF P w K mg base 4 "check_point" s_check_point p_check_point (spD K R_check_point)) (o_check_figure : OkF P w K mg base 8 "check_figure" s_check_figure p_check_figure (spD K R_check_figure)) : OkF P w K mg base 9 "check_drift" s_check_drift p_check_drift (spD K R_check_drift) := by
  refine ok_ofN D c_check_drift (fun ds d h => ?_) (fun cdv A outer s H0 E hr => ⟨_, (pss_cons (ps_expr (pe_own o_check_figure (hr.mono (by decide)) (by rfl) (pa_cons (pv 0) pa_nil)))
    (pss_cons (ps_expr (pe_own o_check_point (hr.mono (by decide)) (by rfl) (pa_cons (pv 1) pa_nil)))
    (pss_one (ps_expr (pe_own o_check_side (hr.mono (by decide)) (by rfl) (pa_cons (pv 2) pa_nil)))))), fun ds d h => ?_⟩)
  · obtain ⟨o, st, sh, rfl, _⟩ := h; rfl
  · obtain ⟨ps, st, sh, rfl, h1, h2, h3, rfl⟩ := h
    exact ⟨rfl, _, sn_seq (sn_drop (ed_call (ea_cons ed_var ea_nil) ⟨ps, rfl, h1, rfl⟩)) (sn_seq (sn_drop (ed_call (ea_cons ed_var ea_nil) ⟨st, rfl, h2, rfl⟩)) (sn_drop (ed_call (ea_cons ed_var ea_nil) ⟨sh, rfl, h3, rfl⟩)))⟩
theorem ok_holds_in_wind (D : DefOk K mg "holds_in_wind" s_holds_in_wind p_holds_in_wind) (o_is_lower : OkF P w K mg base 1 "is_lower" s_is_lower p_is_lower (spD K R_is_lower)) (o_ratio_product : OkF P w K mg base 4 "ratio_product" s_ratio_product p_ratio_product (spD K R_ratio_product)) (o_support : OkF P w K mg base 5 "support" s_support p_support (spD K R_support)) (o_along : OkF P w K mg base 4 "along" s_along p_along (spD K R_along)) (o_is_pointing : OkF P w K mg base 3 "is_pointing" s_is_pointing p_is_pointing (spD K R_is_pointing)) (o_check_drift : OkF P w K mg base 9 "check_drift" s_check_drift p_check_drift (spD K R_check_drift)) : OkF P w K mg base 10 "holds_in_wind" s_holds_in_wind p_holds_in_wind (spD K R_holds_in_wind) := by
  refine ok_of D c_holds_in_wind (fun ds d h => ?_) (fun cdv A outer s H0 E hr => ⟨_, (pss_cons (ps_expr (pe_own o_check_drift (hr.mono (by decide)) (by rfl) (pa_cons (pv 0) (pa_cons (pv 1) (pa_cons (pv 2) pa_nil)))))
    (pss_cons (ps_if (pt_not (pt_val (pe_own o_is_pointing (hr.mono (by decide)) (by rfl) (pa_cons (pv 3) pa_nil)))) pss_never pss_nil)
    (pss_cons (ps_asg (pv 2) (pg_tup rfl (pgs_cons (pg_name (i := 4) c_holds_in_wind.nd rfl (by first | exact Or.inl rfl | exact Or.inr rfl)) (pgs_cons (pg_name (i := 5) c_holds_in_wind.nd rfl (by first | exact Or.inl rfl | exact Or.inr rfl)) (pgs_cons (pg_name (i := 6) c_holds_in_wind.nd rfl (by first | exact Or.inl rfl | exact Or.inr rfl)) pgs_nil)))))
    (pss_cons (ps_asg (pv 3) (pg_tup rfl (pgs_cons (pg_name (i := 7) c_holds_in_wind.nd rfl (by first | exact Or.inl rfl | exact Or.inr rfl)) (pgs_cons (pg_name (i := 8) c_holds_in_wind.nd rfl (by first | exact Or.inl rfl | exact Or.inr rfl)) pgs_nil))))
    (pss_cons (ps_set (i := 9) c_holds_in_wind.nd rfl (by first | exact Or.inl rfl | exact Or.inr rfl) (pe_own o_along (hr.mono (by decide)) (by rfl) (pa_cons (pe_tup (pa_cons (pv 4) (pa_cons (pv 5) pa_nil))) (pa_cons (pv 1) pa_nil))))
    (pss_cons (ps_set (i := 10) c_holds_in_wind.nd rfl (by first | exact Or.inl rfl | exact Or.inr rfl) (pe_own o_support (hr.mono (by decide)) (by rfl) (pa_cons (pv 0) (pa_cons (pe_tup (pa_cons (pe_op op_sub (pe_op op_mul (pe_un un_neg (pv 4)) (pv 7)) (pe_op op_mul (pv 5) (pv 8))) (pa_cons (pe_op op_sub (pe_op op_mul (pv 4) (pv 8)) (pe_op op_mul (pv 5) (pv 7))) pa_nil))) pa_nil))))
    (pss_cons (ps_if (pt_cmpR op_le (pe_ix ix_tup (pv 9) pe_int (fun _ _ => rfl)) pe_int (nomark _)) (pss_one (ps_ret pe_bl)) pss_nil)
    (pss_one (ps_ret (pe_not (pe_own o_is_lower (hr.mono (by decide)) (by rfl) (pa_cons (pe_own o_ratio_product (hr.mono (by decide)) (by rfl) (pa_cons (pv 10) (pa_cons (pv 10) pa_nil))) (pa_cons (pe_own o_ratio_product (hr.mono (by decide)) (by rfl) (pa_cons (pe_own o_ratio_product (hr.mono (by decide)) (by rfl) (pa_cons (pv 9) (pa_cons (pv 9) pa_nil))) (pa_cons (pe_tup (pa_cons (pe_op op_add (pe_op op_mul (pv 7) (pv 7)) (pe_op op_mul (pv 8) (pv 8))) (pa_cons pe_int pa_nil))) pa_nil))) pa_nil))))))))))))), fun ds d h => ?_⟩)
  · obtain ⟨o, st, sh, wd, rfl, _⟩ := h; rfl
  · obtain ⟨ps, st, sh, wd, rfl, ha, hw, hws, rfl⟩ := h
    obtain ⟨d1, d2, d3⟩ := drf_bd ha
    obtain ⟨f1, f2, f3⟩ := far_bd ha hws
    obtain ⟨s1, s2⟩ := ha.shs
    obtain ⟨w1, w2⟩ := hws
    have r1 := rp_den (p := supp (nrm sh wd) ps) (q := supp (nrm sh wd) ps) (m := 1023) (n := 1023) ⟨f2, by omega⟩ ⟨f2, by omega⟩
    have r2 := rp_den (p := drf st sh) (q := drf st sh) (m := 99) (n := 99) ⟨d2, by omega⟩ ⟨d2, by omega⟩
    have b2 : (drf st sh).2 < 32768 := by omega
    refine st_seq (sn_drop (ed_call (ea_cons ed_var (ea_cons ed_var (ea_cons ed_var ea_nil))) ⟨ps, st, sh, rfl, ha.fig, ha.vst, ha.vsh, rfl⟩)) ?_
    refine st_seq (sn_not (Et.is (et_not (et_B (ed_call (ea_cons ed_var ea_nil) ⟨wd, rfl, rfl⟩))) (by rw [decide_eq_true hw]; rfl))) ?_
    refine st_seq (sn_asgG ed_var (gn_tup (gsn_cons gn_name (gsn_cons gn_name (gsn_cons gn_name gsn_nil))))) ?_
    refine st_seq (sn_asgG ed_var (gn_tup (gsn_cons gn_name (gsn_cons gn_name gsn_nil)))) ?_
    refine st_seq (sn_asg (d := dq (drf st sh)) (ed_call (by walk_at "ea") ⟨(sh.1, sh.2.1), st, rfl, ha.sp, rfl⟩)) ?_
    refine st_seq (sn_asg (d := dq (supp (nrm sh wd) ps)) ?_) ?_
    · apply ed_call
      · walk_at "ea"
      · exact ⟨ps, nrm sh wd, rfl, ha.fig.pre.ne, by have := ha.fig.sp.len; omega, ha.fig.sp.small, rfl⟩
    · refine st_when (et_test (ed_le (ed_ixT ed_var ed_int rfl) ed_int)) (fun h => ?_) (fun h => ?_)
      · unfold hiw
        rw [if_pos (of_decide_eq_true h)]
        exact st_ret ed_bl
      · unfold hiw
        rw [if_neg (of_decide_eq_false h)]
        have t1 : (rp (drf st sh) (drf st sh)).1.natAbs ≤ 2 ^ 50 := Nat.le_trans (abs_div _ _) (Nat.le_trans (mul_bd d1 d1) (by decide))
        have r3 := rp_den (p := rp (drf st sh) (drf st sh)) (q := (wd.1 * wd.1 + wd.2 * wd.2, 1)) (m := 99 * 99) (n := 1) r2 ⟨by show (0 : Int) < 1; decide, by show (1 : Int) ≤ 1; decide⟩
        refine st_ret (ed_notV ?_)
        refine ed_call (ea_cons (ed_call (ea_cons ed_var (ea_cons ed_var ea_nil)) ⟨supp (nrm sh wd) ps, supp (nrm sh wd) ps, rfl, bd_of f1 (by decide), ⟨f2, by omega⟩, ⟨f2, by omega⟩, rfl⟩) (ea_cons (ed_call (ea_cons (ed_call (ea_cons ed_var (ea_cons ed_var ea_nil)) ⟨drf st sh, drf st sh, rfl, bd_of d1 (by decide), ⟨d2, b2⟩, ⟨d2, b2⟩, rfl⟩) (ea_cons ?_ ea_nil)) ⟨rp (drf st sh) (drf st sh), (wd.1 * wd.1 + wd.2 * wd.2, 1), rfl, bd_of t1 (by decide), ?_, ⟨by show (0 : Int) < 1; decide, by show (1 : Int) < 32768; decide⟩, rfl⟩) ea_nil)) ⟨_, _, rfl, ?_, ?_, rfl⟩
        · walk_at "ed"
        · exact ⟨r2.1, by omega⟩
        · exact ⟨r1.1, Int.lt_of_le_of_lt r1.2 (by decide)⟩
        · exact ⟨r3.1, Int.lt_of_le_of_lt r3.2 (by decide)⟩
theorem ok_winds_off (D : DefOk K mg "winds_off" s_winds_off p_winds_off) (o_sides : OkF P w K mg base 5 "sides" s_sides p_sides (spD K R_sides)) (o_along : OkF P w K mg base 4 "along" s_along p_along (spD K R_along)) (o_check_drift : OkF P w K mg base 9 "check_drift" s_check_drift p_check_drift (spD K R_check_drift)) : OkF P w K mg base 10 "winds_off" s_winds_off p_winds_off (spD K R_winds_off) := by
  refine ok_of D c_winds_off (fun ds d h => ?_) (fun cdv A outer s H0 E hr => ⟨_, (pss_cons (ps_expr (pe_own o_check_drift (hr.mono (by decide)) (by rfl) (pa_cons (pv 0) (pa_cons (pv 1) (pa_cons (pv 2) pa_nil)))))
    (pss_cons (ps_asg (pe_own o_along (hr.mono (by decide)) (by rfl) (pa_cons (pe_slice sl_tup (pv 2) po_none (po_some pe_int)) (pa_cons (pv 1) pa_nil))) (pg_tup rfl (pgs_cons (pg_name (i := 3) c_winds_off.nd rfl (by first | exact Or.inl rfl | exact Or.inr rfl)) (pgs_cons (pg_name (i := 4) c_winds_off.nd rfl (by first | exact Or.inl rfl | exact Or.inr rfl)) pgs_nil))))
    (pss_cons (ps_set (i := 5) c_winds_off.nd rfl (by first | exact Or.inl rfl | exact Or.inr rfl) (pe_op op_add (pe_op op_mul (pe_ix ix_tup (pv 2) pe_int (fun _ _ => rfl)) (pe_ix ix_tup (pv 2) pe_int (fun _ _ => rfl))) (pe_op op_mul (pe_ix ix_tup (pv 2) pe_int (fun _ _ => rfl)) (pe_ix ix_tup (pv 2) pe_int (fun _ _ => rfl)))))
    (pss_cons (ps_if (pt_cmpR op_le (pv 3) pe_int (nomark _)) (pss_one (ps_ret pe_str)) pss_nil)
    (pss_cons (ps_asg (pe_tup (pa_cons (pe_op op_mul (pv 3) (pv 3)) (pa_cons (pe_op op_mul (pe_op op_mul (pv 4) (pv 4)) (pv 5)) pa_nil))) (pg_tup rfl (pgs_cons (pg_name (i := 6) c_winds_off.nd rfl (by first | exact Or.inl rfl | exact Or.inr rfl)) (pgs_cons (pg_name (i := 7) c_winds_off.nd rfl (by first | exact Or.inl rfl | exact Or.inr rfl)) pgs_nil))))
    (pss_cons (ps_if (pt_val (pe_callB (cr_all rfl) (by rfl) T.all bb_all (pa_cons (pe_lc (own := [("a", 8), ("b", 9), ("h", 10)]) (g := gTup K 3 (gCons (gName 8) (gCons (gName 9) (gCons (gName 10) (gNil))))) (tt := tYes) rfl c_winds_off.nd (pi_tup (pe_own o_sides (hr.mono (by decide)) (by rfl) (pa_cons (pv 0) pa_nil))) (blkOk_by (N := n_winds_off) (sc := defScope s_winds_off) (by decide +kernel)) (fun _ _ _ _ _ => (pg_tup rfl (pgs_cons (pg_name (i := 8) c_winds_off.nd rfl (by first | exact Or.inl rfl | exact Or.inr rfl)) (pgs_cons (pg_name (i := 9) c_winds_off.nd rfl (by first | exact Or.inl rfl | exact Or.inr rfl)) (pgs_cons (pg_name (i := 10) c_winds_off.nd rfl (by first | exact Or.inl rfl | exact Or.inr rfl)) pgs_nil))))) (fun _ _ _ _ _ => pts_nil) (fun _ _ _ _ _ => (pe_cmpR op_le (pe_op op_mul (pv 6) (pe_op op_add (pe_op op_mul (pv 8) (pv 8)) (pe_op op_mul (pv 9) (pv 9)))) (pe_op op_mul (pe_op op_mul (pv 10) (pv 10)) (pv 7)) (nomark _)))) pa_nil))) (pss_one (ps_ret pe_str)) pss_nil)
    (pss_one (ps_ret (pe_ifExp (pt_val (pe_callB (cr_any rfl) (by rfl) T.any bb_any (pa_cons (pe_lc (own := [("x", 11), ("y", 12), ("w", 13)]) (g := gTup K 3 (gCons (gName 11) (gCons (gName 12) (gCons (gName 13) (gNil))))) (tt := tYes) rfl c_winds_off.nd (pi_tup (pv 0)) (blkOk_by (N := n_winds_off) (sc := defScope s_winds_off) (by decide +kernel)) (fun _ _ _ _ _ => (pg_tup rfl (pgs_cons (pg_name (i := 11) c_winds_off.nd rfl (by first | exact Or.inl rfl | exact Or.inr rfl)) (pgs_cons (pg_name (i := 12) c_winds_off.nd rfl (by first | exact Or.inl rfl | exact Or.inr rfl)) (pgs_cons (pg_name (i := 13) c_winds_off.nd rfl (by first | exact Or.inl rfl | exact Or.inr rfl)) pgs_nil))))) (fun _ _ _ _ _ => pts_nil) (fun _ _ _ _ _ => (pe_cmpR op_le (pe_op op_mul (pe_op op_mul (pv 6) (pv 13)) (pv 13)) (pe_op op_mul (pv 7) (pe_op op_add (pe_op op_mul (pv 11) (pv 11)) (pe_op op_mul (pv 12) (pv 12)))) (nomark _)))) pa_nil))) pe_str pe_str))))))))), fun ds d h => ?_⟩)
  · obtain ⟨o, st, sh, rfl, _⟩ := h; rfl
  · obtain ⟨ps, st, sh, rfl, ha, rfl⟩ := h
    obtain ⟨g1, g2, g3⟩ := drf_bd ha
    obtain ⟨s1, s2⟩ := ha.shs
    have hl := ha.fig.sp.len
    have q1 := mul_bd (a := sh.1) (b := sh.1) (A := 1023) (B := 1023) (by omega) (by omega)
    have q2 := mul_bd (a := sh.2.1) (b := sh.2.1) (A := 1023) (B := 1023) (by omega) (by omega)
    have dd := mul_bd g1 g1
    have uu := mul_bd (a := (drf st sh).2) (b := (drf st sh).2) (A := 99) (B := 99) (by omega) (by omega)
    have sq : (sh.1 * sh.1 + sh.2.1 * sh.2.1).natAbs ≤ 2093058 := by
      generalize sh.1 * sh.1 = X at q1 ⊢
      generalize sh.2.1 * sh.2.1 = Y at q2 ⊢
      omega
    have sc := mul_bd uu sq
    refine st_seq (sn_drop (ed_call (ea_cons ed_var (ea_cons ed_var (ea_cons ed_var ea_nil))) ⟨ps, st, sh, rfl, ha.fig, ha.vst, ha.vsh, rfl⟩)) ?_
    refine st_seq (sn_asgG (d := dq (drf st sh)) (ed_call (ea_cons (ed_slT (ds := [.int sh.1, .int sh.2.1, .int sh.2.2]) ed_var eo_none (eo_some ed_int) (fun z => absurd z.2 (show ¬ (HT.sIx 3 3 (some 2) = 3) from by decide))) (ea_cons ed_var ea_nil)) ⟨(sh.1, sh.2.1), st, rfl, ha.sp, rfl⟩) (gn_tup (gsn_cons gn_name (gsn_cons gn_name gsn_nil)))) ?_
    refine st_seq (sn_asg (d := .int (sh.1 * sh.1 + sh.2.1 * sh.2.1)) (by walk_at "ed")) ?_
    refine st_when (et_test (ed_le ed_var ed_int)) (fun h => ?_) (fun h => ?_)
    · unfold wof
      rw [if_pos (of_decide_eq_true h)]
      exact st_ret ed_str
    · unfold wof
      rw [if_neg (of_decide_eq_false h)]
      refine st_seq (sn_asgG (d := d2 ((drf st sh).1 * (drf st sh).1) ((drf st sh).2 * (drf st sh).2 * (sh.1 * sh.1 + sh.2.1 * sh.2.1))) (ed_tup (ea_cons (ed_mul ed_var ed_var (.inl (bd_of g1 (by decide)))) (ea_cons (ed_mul (ed_mul ed_var ed_var (.inl (by omega))) ed_var (.inl (bd_of uu (by decide)))) ea_nil)) (Nat.le_of_ble_eq_true rfl)) (gn_tup (gsn_cons gn_name (gsn_cons gn_name gsn_nil)))) ?_
      have e1 : ((sd ps).map dp).map (on3 fun s => .bool (decide ((drf st sh).1 * (drf st sh).1 * (s.1 * s.1 + s.2.1 * s.2.1) ≤ s.2.2 * s.2.2 * ((drf st sh).2 * (drf st sh).2 * (sh.1 * sh.1 + sh.2.1 * sh.2.1))))) = ((sd ps).map fun s => decide ((drf st sh).1 * (drf st sh).1 * (s.1 * s.1 + s.2.1 * s.2.1) ≤ s.2.2 * s.2.2 * ((drf st sh).2 * (drf st sh).2 * (sh.1 * sh.1 + sh.2.1 * sh.2.1)))).map PyData.bool := by
        rw [List.map_map, List.map_map]; rfl
      have z1 := bc_all (K := K) (bs := (sd ps).map fun s => decide ((drf st sh).1 * (drf st sh).1 * (s.1 * s.1 + s.2.1 * s.2.1) ≤ s.2.2 * s.2.2 * ((drf st sh).2 * (drf st sh).2 * (sh.1 * sh.1 + sh.2.1 * sh.2.1))))
      rw [← e1] at z1
      have f1 : (((sd ps).map fun s => decide ((drf st sh).1 * (drf st sh).1 * (s.1 * s.1 + s.2.1 * s.2.1) ≤ s.2.2 * s.2.2 * ((drf st sh).2 * (drf st sh).2 * (sh.1 * sh.1 + sh.2.1 * sh.2.1)))).all id) = allS ps st sh := by
        unfold allS; rw [List.all_map]; rfl
      have sl : (sd ps).length = ps.length := by unfold sd; rw [List.length_mapIdx]
      have e2 : (ps.map dp).map (on3 fun p => .bool (decide ((drf st sh).1 * (drf st sh).1 * p.2.2 * p.2.2 ≤ (drf st sh).2 * (drf st sh).2 * (sh.1 * sh.1 + sh.2.1 * sh.2.1) * (p.1 * p.1 + p.2.1 * p.2.1)))) = (ps.map fun p => decide ((drf st sh).1 * (drf st sh).1 * p.2.2 * p.2.2 ≤ (drf st sh).2 * (drf st sh).2 * (sh.1 * sh.1 + sh.2.1 * sh.2.1) * (p.1 * p.1 + p.2.1 * p.2.1))).map PyData.bool := by
        rw [List.map_map, List.map_map]; rfl
      have z2 := bc_any (K := K) (bs := ps.map fun p => decide ((drf st sh).1 * (drf st sh).1 * p.2.2 * p.2.2 ≤ (drf st sh).2 * (drf st sh).2 * (sh.1 * sh.1 + sh.2.1 * sh.2.1) * (p.1 * p.1 + p.2.1 * p.2.1)))
      rw [← e2] at z2
      have f2 : ((ps.map fun p => decide ((drf st sh).1 * (drf st sh).1 * p.2.2 * p.2.2 ≤ (drf st sh).2 * (drf st sh).2 * (sh.1 * sh.1 + sh.2.1 * sh.2.1) * (p.1 * p.1 + p.2.1 * p.2.1))).any id) = anyC ps st sh := by
        unfold anyC; rw [List.any_map]; rfl
      refine st_when (et_B (ed_cb (ea_cons (ed_lcT _ (ed_call (ea_cons ed_var ea_nil) ⟨ps, rfl, ha.fig.sp, rfl⟩) (by rw [List.length_map, sl]; omega) fun d hd => ?_) ea_nil) z1)) (fun h => ?_) (fun h => ?_)
      · obtain ⟨t, ht, rfl⟩ := List.mem_map.mp hd
        obtain ⟨b1, b2, b3⟩ := sd_bd ha.fig ht
        refine ⟨_, gd_tup (gs_cons (gd_in (by decide)) (gs_cons (gd_in (by decide)) (gs_cons (gd_in (by decide)) gs_nil))), ed_le (ed_mul ed_var (ed_add (ed_mul ed_var ed_var (.inl (bd_of b1 (by decide)))) (ed_mul ed_var ed_var (.inl (bd_of b2 (by decide))))) (.inl (bd_of dd (by decide)))) (ed_mul (ed_mul ed_var ed_var (.inl (bd_of b3 (by decide)))) ed_var (.inr (bd_of sc (by decide))))⟩
      · rw [f1] at h
        rw [if_pos h]
        exact st_ret ed_str
      · rw [f1] at h
        rw [if_neg (by rw [h]; exact Bool.false_ne_true)]
        refine st_ret (ed_if (et_B (ed_cb (ea_cons (ed_lcT _ ed_var (by rw [List.length_map]; omega) fun d hd => ?_) ea_nil) z2)) (fun h2 => ?_) (fun h2 => ?_))
        · obtain ⟨t, ht, rfl⟩ := List.mem_map.mp hd
          obtain ⟨p1, p2, p3⟩ := ha.fig.pre.small t ht
          have w := ha.fig.pre.w_ok ht
          have k1 := mul_bd (a := t.1) (b := t.1) (A := 1023) (B := 1023) (by omega) (by omega)
          have k2 := mul_bd (a := t.2.1) (b := t.2.1) (A := 1023) (B := 1023) (by omega) (by omega)
          refine ⟨_, gd_tup (gs_cons (gd_in (by decide)) (gs_cons (gd_in (by decide)) (gs_cons (gd_in (by decide)) gs_nil))), ed_le (ed_mul (ed_mul ed_var ed_var (.inr (by dsimp only; omega))) ed_var (.inr (by dsimp only; omega))) (ed_mul ed_var (ed_add (ed_mul ed_var ed_var (.inl (by dsimp only; omega))) (ed_mul ed_var ed_var (.inl (by dsimp only; omega)))) (.inl (bd_of sc (by decide))))⟩
        · rw [f2] at h2
          rw [if_pos h2]
          exact ed_str
        · rw [f2] at h2
          rw [if_neg (by rw [h2]; exact Bool.false_ne_true)]
          exact ed_str
end
end Wf
set_option Elab.async false
set_option linter.all false
set_option maxRecDepth 100000
set_option maxHeartbeats 2000000
/-! the law's sack: a list of three numbers, written by who draws; repr, calls by keywords, sets of lists -/
namespace Wf
open PySem PySem.Spec PyProof.Rows L2
/-! ### rules the kit lacks -/
def rIxA (K : PySem.W.Frag) : R2 := fun x y H Q => rIxL K x y H Q ∨ rIxT K x y H Q
theorem ix_any {X : Cx} : IxR X (rIxA X.K) := by
  intro value slice pins s σ H x y v u Q I rx ry h hs
  exact h.elim (fun h => ix_list value slice pins s σ H x y v u Q I rx ry h hs) (fun h => ix_tup value slice pins s σ H x y v u Q I rx ry h hs)
def rRepr : List V → Hp → VK → Prop := fun xs H Q => (∃ x, xs = [.str x] ∧ (reprText x).length ≤ sizeLine ∧ Q (.str (reprText x)) H) ∨ (∃ b : Bool, xs = [.bl b] ∧ Q (.str (if b then "True" else "False")) H)
theorem call_reprT {X : Cx} : CallR X (.builtin "repr") rRepr := by
  intro pins s σ H xs us Q I r h
  rcases h with ⟨x, rfl, hz, q⟩ | ⟨b, rfl, q⟩
  · obtain ⟨u, rfl, t, rfl⟩ := vals1 r
    exact PySem.P.repr_of_str (h := ⟨.str _, H, I.tok _, ⟨_, rfl⟩, q⟩) (hsz := hz)
  · obtain ⟨u, rfl, e⟩ := vals1 r
    subst e
    exact PySem.P.repr_of_bool ⟨.str _, H, I.tok _, ⟨_, rfl⟩, q⟩
/-- f(k = v, ..): every parameter by its name -/
theorem pe_ownN {X : Cx} {k : Nat} {x : Str} {st : Stmt} {ps ks : List Str} {sp : Sp} {p pos : Pos} {kws : List Keyword} {tk : TA} {g : List Value → List Value → List Value} {gV : List V → List V → List V} (h : OkF X.prog X.w X.K X.mg X.base k x st ps sp) (hr : Room k X.A) (hg : Gl X x)
    (hb : ∀ fd, FnP X.K x st (He.ga X.K x) fd → KBn X.K fd ps 0 ks g gV) (hkw : PK X kws tk)
    (hall : (backToKw pos (keywordEach kws X.env)).all (·.1.isSome) = true := by rfl) (hks : (backToKw pos (keywordEach kws X.env)).filterMap (·.1) = ks := by rfl) (hdb : (x == ("__debug__" : Str)) = false := by decide)
    (hpl : ((backTo pos (starEach [] X.env)).any (·.1) || (backToKw pos (keywordEach kws X.env)).any (·.1.isNone)) = false := by rfl) :
    PE X (.Call (.Name x p) [] kws pos) (tCallN 0 ks.length sp gV E0 tNil tk) := by
  obtain ⟨fd, F, FF, hm, _⟩ := h
  have hb := hb fd FF
  refine ⟨fun pins s σ H Q I h => ?_⟩
  refine wpAny_Call_Name_kw (ld_glob I hg hm ?_ hdb)
  refine PySem.W.callWith_KW0 (h₀ := X.base) I.ok.mod.kin FF.kp hall ?_ hpl
  refine thn (hkw.run pos pins s σ H _ I h) fun ws s2 ⟨zs, H2, I2, rz, l1, l2, q2⟩ => ⟨I2.kIn, ?_⟩
  rw [hks]
  exact run_fnN (us := []) F hr hb pass0 I2 .nil rz l1 l2 q2
section
variable {K : PySem.W.Frag} {es es1 : List (Option PyData)} {ta te td tl : TE} {tt : TT} {d d1 d2 : PyData} {ds : List PyData} {a b : Int} {t u : TS} {i j n : Nat}
theorem ed_callN {tk : TA} {R : List PyData → PyData → Prop} {E : XK} {gV : List V → List V → List V} (gD : List PyData → List PyData) (h : Ea K tk es ds) (hl : ds.length = n) (hg : ∀ G vs, DpAll K G vs ds → DpAll K G (gV [] vs) (gD ds)) (hr : R (gD ds) d) : Ed K (tCallN 0 n (spD K R) gV E tNil tk) es d := fun σ G H hE hS Q k =>
  h σ G H hE hS _ fun vs G1 H1 n1 dv => by
    show ([] : List V).length = 0 ∧ vs.length = n ∧ spD K R (gV [] vs) H1 Q E
    exact ⟨rfl, by rw [dps_len dv]; exact hl, G1, gD ds, d, n1.s, hg G1 vs dv, hr, fun v G2 H2 n2 dw => k v G2 H2 (n1.trans n2) dw⟩
theorem ed_reprS {x : Str} (h : Ed K ta es (.str x)) (hz : (reprText x).length ≤ sizeLine) : Ed K (tCB rRepr (tCons ta tNil)) es (.str (reprText x)) := ed_cb (ea_cons h ea_nil) fun G H ws hd hS Q k => by
  obtain ⟨v, rfl, hv⟩ := dps1 hd
  cases dp_str hv
  exact .inl ⟨x, rfl, hz, k _ G H (Nw.refl hS) (.str _)⟩
theorem ed_reprB {b : Bool} (h : Ed K ta es (.bool b)) : Ed K (tCB rRepr (tCons ta tNil)) es (.str (if b then "True" else "False")) := ed_cb (ea_cons h ea_nil) fun G H ws hd hS Q k => by
  obtain ⟨v, rfl, hv⟩ := dps1 hd
  cases dp_bl hv
  exact .inr ⟨b, rfl, k _ G H (Nw.refl hS) (.str _)⟩
theorem ed_pow (ha : Ed K ta es (.int a)) (hb : Ed K te es (.int b)) (hc : CPow a b) : Ed K (tOp (rI CPow fun i j => .int (i ^ j.toNat)) ta te) es (.int (a ^ b.toNat)) := ed_op ha hb (op_i hc fun _ => .int _)
theorem ed_abs (ha : Ed K ta es (.int a)) : Ed K (tCB (fun xs H Q => ∃ i, xs = [.int i] ∧ Q (.int (if i < 0 then -i else i)) H) (tCons ta tNil)) es (.int (if a < 0 then -a else a)) := ed_cb (ea_cons ha ea_nil) bc_abs
theorem ed_int1 (ha : Ed K ta es (.int a)) : Ed K (tCB (fun xs H Q => (∃ i, xs = [.int i] ∧ Q (.int i) H) ∨ ∃ k, xs = [.bl k] ∧ Q (.int (if k then 1 else 0)) H) (tCons ta tNil)) es (.int a) := ed_cb (ea_cons ha ea_nil) bc_int1
theorem sn_par {tz : TA} (h : Ea K tz es [d1, d2]) : Sn K (tPar i j tz) es ((es.set i (some d1)).set j (some d2)) := fun σ G H D hE hS k => h σ G H hE hS _ fun vs G1 H1 n1 dv => by
  obtain ⟨v, w, rfl, hv, hw⟩ := dps2 dv
  exact ⟨v, w, rfl, k _ G1 H1 n1 (((hE.mono n1.g).set i hv).set j hw)⟩
/-- sorted(set(a list of pairs)) -/
theorem ed_sortlist {P : Program} {w : World} {ps : List Pt} (h : Ed K td es (.list (ps.map dq))) (hz : ps.length < 63) (hsm : ∀ p ∈ ps, Sm p.1 p.2) :
    Ed K (tCB (rSortedW K P w) (tCons (tCB (rSetOfT K P w) (tCons td tNil)) tNil)) es (.list ((ssort ps).map dq)) := fun σ G H hE hS Q k =>
  h σ G H hE hS _ fun v G1 H1 n1 dv => by
    obtain ⟨a, xs, rfl, hq, hd⟩ := dp_lst dv
    -- the rows with their addresses
    have rows : ∀ (xs : List V) (ps : List Pt), DpAll K G1 xs (ps.map dq) → ∃ ks : List (Addr × List Int), xs = ks.map (fun p => V.ref p.1) ∧ (∀ p ∈ ks, SqT K G1 p.1 (p.2.map V.int)) ∧ ks.map (·.2) = ps.map lst2 := by
      intro xs ps
      induction ps generalizing xs with
      | nil => intro hd; cases hd; exact ⟨[], rfl, fun p hp => absurd hp (by simp), rfl⟩
      | cons p ps ih =>
        intro hd
        cases hd with
        | cons h1 h2 =>
          obtain ⟨ks, e1, e2, e3⟩ := ih _ h2
          obtain ⟨z, zs, rfl, hz4, az4⟩ := dp_tup h1
          have ezs : zs = (lst2 p).map V.int := dps_ints (ns := lst2 p) az4
          subst ezs
          refine ⟨(z, lst2 p) :: ks, by rw [e1]; rfl, fun q hq => ?_, by rw [List.map_cons, e3, List.map_cons]⟩
          rcases List.mem_cons.mp hq with e | e
          · rw [e]; exact hz4
          · exact e2 q e
    obtain ⟨ks, ek, hk, em⟩ := rows xs ps hd
    have kl : ks.length = ps.length := by have := congrArg List.length em; rw [List.length_map, List.length_map] at this; exact this
    show rSetOfT K P w [V.ref a] H1 (fun x H2 => rSortedW K P w [x] H2 Q)
    refine ⟨a, ks, rfl, by rw [← ek]; exact n1.s.seq hq, fun p hp => same_seqT n1.s (hk p hp), by omega, fun D L hD c1 c2 => ?_⟩
    have s2 : Same G1 (upd H1 D (SetTO P w D L)) := n1.s.trans (same_new hD)
    show rSortedW K P w [V.ref D] (upd H1 D (SetTO P w D L)) Q
    refine ⟨D, L, rfl, upd_same, fun p hp => same_seqT s2 (hk p (c1 p hp)), fun p hp => ?_, fun L' p pm nd few pw hp => ?_⟩
    · obtain ⟨r, hr, e⟩ := List.mem_map.mp (show p.2 ∈ ps.map lst2 from em ▸ List.mem_map.mpr ⟨p, c1 p hp, rfl⟩)
      exact ⟨r.1, r.2, e.symm, hsm r hr⟩
    · have e1 : L'.map (·.2) = (ssort ps).map lst2 := rows_sorted nd pw hsm fun k' => by
        rw [(pm.map (·.2)).mem_iff, ← em]
        constructor
        · intro q
          obtain ⟨r, hr, e⟩ := List.mem_map.mp q
          exact List.mem_map.mpr ⟨r, c1 r hr, e⟩
        · intro q
          obtain ⟨r, hr, e⟩ := List.mem_map.mp q
          rw [← e]; exact c2 r hr
      have hp1 : H1 p = none := by
        by_cases e : p = D
        · subst e; exact hD
        · rw [upd_ne e] at hp; exact hp
      have pD : p ≠ D := by
        rintro rfl
        rw [upd_same] at hp; cases hp
      have n2 : Nw none G1 H1 G1 (upd H1 D (SetTO P w D L)) := Nw.of n1.s (same_new hD)
      refine k (.ref p) (upd G1 p (.lst (L'.map fun q => V.ref q.1))) _ ((n1.trans n2).trans (Nw.new s2 hp)) (.lst (SqL.of upd_same) ?_)
      have gp := s2.free hp
      have all : ∀ (M : List (Addr × List Int)) (ps : List Pt), M.map (·.2) = ps.map lst2 → (∀ q ∈ M, SqT K G1 q.1 (q.2.map V.int)) → DpAll K (upd G1 p (.lst (L'.map fun q => V.ref q.1))) (M.map fun q => V.ref q.1) (ps.map dq) := by
        intro M
        induction M with
        | nil =>
          intro ps e _
          cases ps with
          | nil => exact .nil
          | cons _ _ => simp at e
        | cons q M ih =>
          intro ps e hM
          cases ps with
          | nil => simp at e
          | cons r ps =>
            rw [List.map_cons, List.map_cons, List.cons.injEq] at e
            refine .cons (.tup (same_seqT (same_new gp) (hM q List.mem_cons_self)) ?_) (ih ps e.2 fun x hx => hM x (List.mem_cons_of_mem _ hx))
            rw [e.1]
            exact .cons (.int _) (.cons (.int _) .nil)
      exact all L' _ e1 fun q hq => hk q (c1 q (pm.mem_iff.mp hq))
end
/-! ### the sack -/
def Sk (H : Hp) (l : Addr) : Prop := ∃ x y z : Int, H l = some (.lst [.int x, .int y, .int z])
theorem Sk.same {H H' : Hp} {l : Addr} (h : Sk H l) (e : Same H H') : Sk H' l := by
  obtain ⟨x, y, z, h⟩ := h
  exact ⟨x, y, z, e _ _ h⟩
theorem Sk.ne {H : Hp} {l : Addr} (h : Sk H l) : H l ≠ none := by
  obtain ⟨x, y, z, h⟩ := h
  rw [h]; exact fun z => nomatch z
theorem Nw.putNew {x : Option Addr} {G0 H0 G H : Hp} {p : Addr} {o : HO} (n : Nw x G0 H0 G H) (h0 : H0 p = none) (gp : G p = none) : Nw x G0 H0 G (upd H p o) := by
  refine ⟨n.g, fun b u e => ?_, fun b u e => ?_, n.f⟩
  · rw [upd_ne (ne_of_none e gp)]; exact n.s b u e
  · have hb : b ≠ p := ne_of_none e h0
    rw [upd_ne hb]
    exact n.k b u e
theorem Nw.free {x : Option Addr} {G H G' H' : Hp} (n : Nw x G H G' H') {p : Addr} (h : H' p = none) : H p = none := by
  cases e : H p with
  | none => rfl
  | some o =>
    obtain ⟨⟨o', e'⟩, _⟩ := n.k p o e
    rw [h] at e'; cases e'
theorem Nw.shut {x : Option Addr} {G0 H0 G H : Hp} {p : Addr} {o : HO} (n : Nw x G0 H0 G H) (h0 : H0 p = none) (gp : G p = none) (h : H p = some o) : Nw x G0 H0 (upd G p o) H := by
  refine ⟨n.g.trans (same_new gp), fun b u e => ?_, n.k, fun b hb e => ?_⟩
  · by_cases hb : b = p
    · subst hb; rw [upd_same] at e; cases e; exact h
    · rw [upd_ne hb] at e; exact n.s b u e
  · have : b ≠ p := by rintro rfl; exact hb h0
    rw [upd_ne this]; exact n.f b hb e
section
variable (K : PySem.W.Frag) (l : Addr)
def Es (te : TE) (es : List (Option PyData)) (P : PyData → Prop) : Prop := ∀ σ G H, En K G σ es → Same G H → G l = none → σ[0]? = some (some (.ref l)) → Sk H l → ∀ Q : VK, (∀ v d G' H', P d → Nw (some l) G H G' H' → Sk H' l → Dp K G' v d → Q v H') → te σ H Q
def Eas (ta : TA) (es : List (Option PyData)) (Ps : List PyData → Prop) : Prop := ∀ σ G H, En K G σ es → Same G H → G l = none → σ[0]? = some (some (.ref l)) → Sk H l → ∀ Q : List V → Hp → Prop, (∀ vs ds G' H', Ps ds → Nw (some l) G H G' H' → Sk H' l → DpAll K G' vs ds → Q vs H') → ta σ H Q
def spS (R : List PyData → (PyData → Prop) → Prop) : Sp := fun vs H Q _ => ∃ G l ws ds P, vs = .ref l :: ws ∧ Same G H ∧ G l = none ∧ Sk H l ∧ DpAll K G ws ds ∧ R ds P ∧ ∀ v d G' H', P d → Nw (some l) G H G' H' → Sk H' l → Dp K G' v d → Q v H'
def PI (A : Int → Prop) (d : PyData) : Prop := ∃ a, d = .int a ∧ A a
/-- what stands: the facts, the names, the sack in place 0, a list of the def's own -/
def SkS (G0 H0 : Hp) (ow : Option (Nat × List PyData)) (es : List (Option PyData)) (σ : L2.St) (H : Hp) : Prop :=
  ∃ G, Nw (some l) G0 H0 G H ∧ En K G σ es ∧ σ[0]? = some (some (.ref l)) ∧ Sk H l ∧ G l = none ∧ ∀ i ds, ow = some (i, ds) → ∃ p xs, p ≠ l ∧ H0 p = none ∧ G p = none ∧ H p = some (.lst xs) ∧ DpAll K G xs ds ∧ σ[i]? = some (some (.ref p))
end
def Off (ow : Option (Nat × List PyData)) (j : Nat) : Prop := j ≠ 0 ∧ ∀ i ds, ow = some (i, ds) → j ≠ i
section
variable {K : PySem.W.Frag} {l : Addr} {es es1 : List (Option PyData)} {ta te tb : TE} {tr : TA} {tt : TT} {d d1 d2 : PyData} {ds : List PyData} {a b : Int} {t u : TS} {i j n : Nat} {P P1 P2 P3 : PyData → Prop} {Ps : List PyData → Prop} {G0 H0 : Hp} {ow : Option (Nat × List PyData)} {σ : L2.St} {H : Hp} {D : Ends}
theorem es_of (h : Ed K te es d) : Es K l te es (fun x => x = d) := fun σ G H hE hS g hσ s Q k => h σ G H hE hS Q fun v G' H' n dv => k v d G' H' rfl n.up (s.same n.keep) dv
theorem es_le (h : Es K l te es P) (e : ∀ d, P d → P1 d) : Es K l te es P1 := fun σ G H hE hS g hσ s Q k => h σ G H hE hS g hσ s Q fun v d G' H' p => k v d G' H' (e d p)
theorem es_op {r : R2} (ha : Es K l ta es P1) (hb : Es K l tb es P2) (hr : ∀ d1 d2, P1 d1 → P2 d2 → ∃ d3, Op K r d1 d2 d3 ∧ P3 d3) : Es K l (tOp r ta tb) es P3 := fun σ G H hE hS g hσ s Q k =>
  ha σ G H hE hS g hσ s _ fun x d1 G1 H1 p1 n1 s1 dx => hb σ G1 H1 (hE.mono n1.g) n1.s (n1.f l s.ne g) hσ s1 _ fun y d2 G2 H2 p2 n2 s2 dy => by
    obtain ⟨d3, ho, p3⟩ := hr d1 d2 p1 p2
    exact ho G2 H2 x y (dpm dx n2.g) dy n2.s Q fun v G3 H3 n3 dv => k v d3 G3 H3 p3 ((n1.trans n2).trans n3.up) (s2.same n3.keep) dv
theorem es_subI {A C : Int → Prop} (ha : Es K l ta es (PI A)) (hb : Ed K tb es (.int b)) (h : ∀ a, A a → C (a - b)) : Es K l (tOp (rI0 fun i j => .int (i - j)) ta tb) es (PI C) := es_op ha (es_of hb) fun d1 d2 p1 p2 => by
  obtain ⟨a, rfl, pa⟩ := p1
  subst p2
  exact ⟨.int (a - b), op_i0 fun _ => .int _, a - b, rfl, h a pa⟩
theorem es_addI {A C : Int → Prop} (ha : Ed K ta es (.int a)) (hb : Es K l tb es (PI A)) (h : ∀ b, A b → C (a + b)) : Es K l (tOp (rI0 fun i j => .int (i + j)) ta tb) es (PI C) := es_op (es_of ha) hb fun d1 d2 p1 p2 => by
  obtain ⟨b, rfl, pb⟩ := p2
  subst p1
  exact ⟨.int (a + b), op_i0 fun _ => .int _, a + b, rfl, h b pb⟩
theorem eas_nil : Eas K l tNil es (fun ds => ds = []) := fun σ G H hE hS g hσ s Q k => k [] [] G H rfl (Nw.refl hS) s .nil
theorem eas_cons (h : Es K l te es P) (hr : Eas K l tr es Ps) : Eas K l (tCons te tr) es (fun ds => ∃ d ds', ds = d :: ds' ∧ P d ∧ Ps ds') := fun σ G H hE hS g hσ s Q k =>
  h σ G H hE hS g hσ s _ fun x d1 G1 H1 p1 n1 s1 dx => hr σ G1 H1 (hE.mono n1.g) n1.s (n1.f l s.ne g) hσ s1 _ fun vs ds G2 H2 p2 n2 s2 dv => k (x :: vs) (d1 :: ds) G2 H2 ⟨d1, ds, rfl, p1, p2⟩ (n1.trans n2) s2 (.cons (dpm dx n2.g) dv)
theorem eas_of (h : Ea K tr es ds) : Eas K l tr es (fun x => x = ds) := fun σ G H hE hS g hσ s Q k => h σ G H hE hS Q fun v G' H' n dv => k v ds G' H' rfl n.up (s.same n.keep) dv
theorem sk_new {G H : Hp} {p : Addr} {o : HO} (s : Sk H l) (hp : H p = none) : Sk (upd H p o) l := s.same (same_new hp)
theorem es_tup (h : Eas K l tr es Ps) (hl : ∀ ds, Ps ds → ds.length ≤ 100000) : Es K l (tTup tr) es (fun d => ∃ ds, d = .tuple ds ∧ Ps ds) := fun σ G H hE hS g hσ s Q k =>
  h σ G H hE hS g hσ s _ fun vs ds G1 H1 p1 n1 s1 dv => ⟨by rw [dps_len dv]; exact sz_of (hl ds p1), fun p hp => k (.ref p) (.tuple ds) (upd G1 p (.tup vs)) (upd H1 p (.tup vs)) ⟨ds, rfl, p1⟩ (n1.trans (Nw.new n1.s hp)) (s1.same (same_new hp)) (.tup (SqT.of upd_same) (dpsm dv (same_new (n1.s.free hp))))⟩
theorem es_lst (h : Eas K l tr es Ps) (hl : ∀ ds, Ps ds → ds.length ≤ 100000) : Es K l (tLst tr) es (fun d => ∃ ds, d = .list ds ∧ Ps ds) := fun σ G H hE hS g hσ s Q k =>
  h σ G H hE hS g hσ s _ fun vs ds G1 H1 p1 n1 s1 dv => ⟨by rw [dps_len dv]; exact sz_of (hl ds p1), fun p hp => k (.ref p) (.list ds) (upd G1 p (.lst vs)) (upd H1 p (.lst vs)) ⟨ds, rfl, p1⟩ (n1.trans (Nw.new n1.s hp)) (s1.same (same_new hp)) (.lst (SqL.of upd_same) (dpsm dv (same_new (n1.s.free hp))))⟩
theorem es_call {R : List PyData → PyData → Prop} {E : XK} (h : Eas K l tr es Ps) (hr : ∀ ds, Ps ds → ∃ d, R ds d ∧ P d) : Es K l (tCall (spD K R) [] E tr) es P := fun σ G H hE hS g hσ s Q k =>
  h σ G H hE hS g hσ s _ fun vs ds G1 H1 p1 n1 s1 dv => by
    show spD K R (vs ++ []) H1 Q E
    rw [List.append_nil]
    obtain ⟨d, r, p⟩ := hr ds p1
    exact ⟨G1, ds, d, n1.s, dv, r, fun v G2 H2 n2 dw => k v d G2 H2 p (n1.trans n2.up) (s1.same n2.keep) dw⟩
theorem es_callS {R : List PyData → (PyData → Prop) → Prop} {E : XK} (h : Ea K tr es ds) (hr : R ds P) : Es K l (tCall (spS K R) [] E (tCons (tVar 0) tr)) es P := fun σ G H hE hS g hσ s Q k =>
  ⟨.ref l, hσ, h σ G H hE hS _ fun vs G1 H1 n1 dv => by
    show spS K R ((V.ref l :: vs) ++ []) H1 Q E
    rw [List.append_nil]
    exact ⟨G1, l, vs, ds, P, rfl, n1.s, n1.f l s.ne g, s.same n1.keep, dv, hr, fun v d G2 H2 p n2 s2 dw => k v d G2 H2 p (n1.up.trans n2) s2 dw⟩⟩
/-! statements -/
theorem sk_start {G : Hp} (hE : En K G σ es) (hS : Same G H) (g : G l = none) (hσ : σ[0]? = some (some (.ref l))) (s : Sk H l) : SkS K l G H none es σ H := ⟨G, Nw.refl hS, hE, hσ, s, g, fun i ds e => nomatch e⟩
theorem sk_keep {H' : Hp} (o : SkS K l G0 H0 ow es σ H) (e : Same H H') : SkS K l G0 H0 ow es σ H' := by
  obtain ⟨G, n, hE, hσ, s, g, ho⟩ := o
  refine ⟨G, n.trans (Nw.of n.s e), hE, hσ, s.same e, g, fun i ds eq => ?_⟩
  obtain ⟨p, xs, h1, h2, h3, h4, h5, h6⟩ := ho i ds eq
  exact ⟨p, xs, h1, h2, h3, e _ _ h4, h5, h6⟩
theorem sk_le (o : SkS K l G0 H0 ow es σ H) (e : EnLe es es1) : SkS K l G0 H0 ow es1 σ H := by
  obtain ⟨G, n, hE, r⟩ := o
  exact ⟨G, n, hE.le e, r⟩
/-- a step: the sack may change, the own list stays -/
theorem sk_move {G : Hp} {σ' : L2.St} {G' H' : Hp} (n : Nw (some l) G0 H0 G H) (s : Sk H l) (g : G l = none) (ho : ∀ i ds, ow = some (i, ds) → ∃ p xs, p ≠ l ∧ H0 p = none ∧ G p = none ∧ H p = some (.lst xs) ∧ DpAll K G xs ds ∧ σ[i]? = some (some (.ref p)))
    (n1 : Nw (some l) G H G' H') (s1 : Sk H' l) (hE : En K G' σ' es1) (h0 : σ'[0]? = some (some (.ref l))) (hi : ∀ i ds, ow = some (i, ds) → σ'[i]? = σ[i]?) : SkS K l G0 H0 ow es1 σ' H' := by
  refine ⟨G', n.trans n1, hE, h0, s1, n1.f l s.ne g, fun i ds eq => ?_⟩
  obtain ⟨p, xs, h1, h2, h3, h4, h5, h6⟩ := ho i ds eq
  refine ⟨p, xs, h1, h2, n1.f p (by rw [h4]; exact fun z => nomatch z) h3, (n1.k p _ h4).2 (fun z => h1 (Option.some.inj z)), dpsm h5 n1.g, by rw [hi i ds eq]; exact h6⟩
theorem sk_asg (o : SkS K l G0 H0 ow es σ H) (he : Es K l te es P) (hi : Off ow i) (k : ∀ d σ' H', P d → SkS K l G0 H0 ow (es.set i (some d)) σ' H' → D.nx σ' H') : tAsg te (gName i) D σ H := by
  obtain ⟨G, n, hE, hσ, s, g, ho⟩ := o
  refine he σ G H hE n.s g hσ s _ fun v d G1 H1 p n1 s1 dv => k d _ H1 p (sk_move n s g ho n1 s1 ((hE.mono n1.g).set i dv) (by rw [List.getElem?_set_ne hi.1]; exact hσ) fun j ds e => by rw [List.getElem?_set_ne (hi.2 j ds e)])
theorem wipe_at {σ σ' : L2.St} {vs : List Nat} (h : wipe σ' vs = wipe σ vs) {j : Nat} (hj : j ∉ vs) : σ'[j]? = σ[j]? := by
  have z := congrArg (fun s : L2.St => s[j]?) h
  simp only [wipe_get, if_neg hj] at z
  exact z
theorem sk_asgG {g : TG} {vs : List Nat} (o : SkS K l G0 H0 ow es σ H) (he : Es K l te es P) (h0 : 0 ∉ vs) (hi : ∀ j ds, ow = some (j, ds) → j ∉ vs) (k : ∀ d, P d → ∃ es1, Gd K g vs es d es1 ∧ ∀ σ' H', SkS K l G0 H0 ow es1 σ' H' → D.nx σ' H') : tAsg te g D σ H := by
  obtain ⟨G, n, hE, hσ, s, g, ho⟩ := o
  refine he σ G H hE n.s g hσ s _ fun v d G1 H1 p n1 s1 dv => ?_
  obtain ⟨es1, hg, kk⟩ := k d p
  exact hg σ G1 H1 v (hE.mono n1.g) dv n1.s _ fun σ' hE' w => kk σ' H1 (sk_move n s g ho n1 s1 hE' (by rw [wipe_at w h0]; exact hσ) fun j ds e => wipe_at w (hi j ds e))
theorem sk_par (o : SkS K l G0 H0 ow es σ H) (he : Eas K l tr es Ps) (hi : Off ow i) (hj : Off ow j) (k : ∀ ds, Ps ds → ∃ d1 d2, ds = [d1, d2] ∧ ∀ σ' H', SkS K l G0 H0 ow ((es.set i (some d1)).set j (some d2)) σ' H' → D.nx σ' H') : tPar i j tr D σ H := by
  obtain ⟨G, n, hE, hσ, s, g, ho⟩ := o
  refine he σ G H hE n.s g hσ s _ fun vs ds G1 H1 p n1 s1 dv => ?_
  obtain ⟨d1, d2, rfl, kk⟩ := k ds p
  obtain ⟨v, w, rfl, hv, hw⟩ := dps2 dv
  refine ⟨v, w, rfl, kk _ H1 (sk_move n s g ho n1 s1 (((hE.mono n1.g).set i hv).set j hw) ?_ fun q ds e => ?_)⟩
  · rw [List.getElem?_set_ne hj.1, List.getElem?_set_ne hi.1]; exact hσ
  · rw [List.getElem?_set_ne (hj.2 q ds e), List.getElem?_set_ne (hi.2 q ds e)]
theorem sk_par3 {m : Nat} (o : SkS K l G0 H0 ow es σ H) (he : Eas K l tr es Ps) (hi : Off ow i) (hj : Off ow j) (hm : Off ow m) (k : ∀ ds, Ps ds → ∃ d1 d2 d3, ds = [d1, d2, d3] ∧ ∀ σ' H', SkS K l G0 H0 ow (((es.set i (some d1)).set j (some d2)).set m (some d3)) σ' H' → D.nx σ' H') : tPar3 i j m tr D σ H := by
  obtain ⟨G, n, hE, hσ, s, g, ho⟩ := o
  refine he σ G H hE n.s g hσ s _ fun vs ds G1 H1 p n1 s1 dv => ?_
  obtain ⟨d1, d2, d3, rfl, kk⟩ := k ds p
  cases dv with
  | cons hv dv =>
    obtain ⟨v, w, rfl, hw, hx⟩ := dps2 dv
    refine ⟨_, v, w, rfl, kk _ H1 (sk_move n s g ho n1 s1 ((((hE.mono n1.g).set i hv).set j hw).set m hx) ?_ fun q ds e => ?_)⟩
    · rw [List.getElem?_set_ne hm.1, List.getElem?_set_ne hj.1, List.getElem?_set_ne hi.1]; exact hσ
    · rw [List.getElem?_set_ne (hm.2 q ds e), List.getElem?_set_ne (hj.2 q ds e), List.getElem?_set_ne (hi.2 q ds e)]
theorem sk_if {p : Bool} (o : SkS K l G0 H0 ow es σ H) (h : Et K tt es p) (k1 : p = true → ∀ H', SkS K l G0 H0 ow es σ H' → t D σ H') (k2 : p = false → ∀ H', SkS K l G0 H0 ow es σ H' → u D σ H') : tIfS tt t u D σ H := by
  obtain ⟨G, n, hE, r⟩ := id o
  refine h σ G H hE n.s _ fun H1 e1 => ?_
  cases p with
  | true => exact k1 rfl H1 (sk_keep o e1)
  | false => exact k2 rfl H1 (sk_keep o e1)
theorem sk_ret (o : SkS K l G0 H0 ow es σ H) (h : Es K l te es P) (k : ∀ v d G' H', P d → Nw (some l) G0 H0 G' H' → Sk H' l → Dp K G' v d → D.rt v H') : tRet te D σ H := by
  obtain ⟨G, n, hE, hσ, s, g, ho⟩ := o
  exact h σ G H hE n.s g hσ s _ fun v d G1 H1 p n1 s1 dv => k v d G1 H1 p (n.trans n1) s1 dv
/-- the own list -/
theorem sk_open (o : SkS K l G0 H0 none es σ H) (h : Eas K l tr es Ps) (hl : ∀ ds, Ps ds → ds.length ≤ 100000) (hi : i ≠ 0) (hb : i < es.length) (k : ∀ ds σ' H', Ps ds → SkS K l G0 H0 (some (i, ds)) (es.set i none) σ' H' → D.nx σ' H') : tAsg (tLst tr) (gName i) D σ H := by
  obtain ⟨G, n, hE, hσ, s, g, ho⟩ := o
  refine h σ G H hE n.s g hσ s _ fun vs ds G1 H1 p n1 s1 dv => ⟨by rw [dps_len dv]; exact sz_of (hl ds p), fun q hq => ?_⟩
  have nn := n.trans n1
  have g1 : G1 q = none := n1.s.free hq
  have h0 : H0 q = none := nn.free hq
  refine k ds _ _ p ⟨G1, nn.putNew h0 g1, (hE.mono n1.g).setNone i _, by rw [List.getElem?_set_ne hi]; exact hσ, s1.same (same_new hq), n1.f l s.ne g, fun j ds' e => ?_⟩
  cases e
  exact ⟨q, vs, by rintro rfl; exact s1.ne hq, h0, g1, upd_same, dv, by rw [List.getElem?_set_self (by rw [hE.1]; exact hb)]⟩
theorem sk_openP (o : SkS K l G0 H0 none es σ H) (h : Ea K tr es ds) (hl : ds.length ≤ 100000) (h2 : Es K l te es P) (hi : i ≠ 0) (hj : j ≠ 0) (hij : j ≠ i) (hb : i < es.length) (k : ∀ d σ' H', P d → SkS K l G0 H0 (some (i, ds)) ((es.set i none).set j (some d)) σ' H' → D.nx σ' H') : tPar i j (tCons (tLst tr) (tCons te tNil)) D σ H := by
  obtain ⟨G, n, hE, hσ, s, g, ho⟩ := o
  refine h σ G H hE n.s _ fun vs G1 H1 n1 dv => ⟨by rw [dps_len dv]; exact sz_of hl, fun q hq => ?_⟩
  have nn := n.trans n1.up
  have g1 : G1 q = none := n1.s.free hq
  have h0 : H0 q = none := nn.free hq
  have s1 := s.same n1.keep
  have ql : q ≠ l := by rintro rfl; exact s1.ne hq
  have gl : G1 l = none := n1.f l s.ne g
  refine h2 σ G1 _ (hE.mono n1.g) (n1.s.trans (same_new hq)) gl hσ (s1.same (same_new hq)) _ fun v d G2 H2 p n2 s2 dw => ⟨_, v, rfl, ?_⟩
  have q2 : G2 q = none := n2.f q (by rw [upd_same]; exact fun z => nomatch z) g1
  refine k d _ H2 p ⟨G2, (nn.putNew h0 g1).trans n2, ((hE.mono (n1.g.trans n2.g)).setNone i _).set j dw, ?_, s2, n2.f l (s1.same (same_new hq)).ne gl, fun m ds' e => ?_⟩
  · rw [List.getElem?_set_ne hj, List.getElem?_set_ne hi]; exact hσ
  · cases e
    exact ⟨q, vs, ql, h0, q2, (n2.k q _ upd_same).2 (fun z => ql (Option.some.inj z)), dpsm dv n2.g, by rw [List.getElem?_set_ne hij, List.getElem?_set_self (by rw [hE.1]; exact hb)]⟩
theorem sk_app (o : SkS K l G0 H0 (some (i, ds)) es σ H) (he : Es K l te es P) (hz : ds.length < 100000) (k : ∀ d H', P d → SkS K l G0 H0 (some (i, ds ++ [d])) es σ H' → D.nx σ H') : tDrop (tBM K "list" rAppend (tVar i) (tCons te tNil)) D σ H := by
  obtain ⟨G, n, hE, hσ, s, g, ho⟩ := o
  obtain ⟨p, xs, h1, h2, h3, h4, h5, h6⟩ := ho i ds rfl
  refine ⟨.ref p, h6, .inl ⟨rfl, _, SqL.of h4⟩, he σ G H hE n.s g hσ s _ fun v d G1 H1 pd n1 s1 dv => ?_⟩
  have h4' : H1 p = some (.lst xs) := (n1.k p _ h4).2 (fun z => h1 (Option.some.inj z))
  have g1 : G1 p = none := n1.f p (by rw [h4]; exact fun z => nomatch z) h3
  refine ⟨p, xs, v, rfl, rfl, h4', by rw [dps_len h5]; exact Nat.lt_of_lt_of_le hz (by decide), ?_⟩
  refine k d _ pd ⟨G1, (n.trans n1).putNew h2 g1, hE.mono n1.g, hσ, ?_, n1.f l s.ne g, fun j ds' e => ?_⟩
  · obtain ⟨x, y, z, e⟩ := s1
    exact ⟨x, y, z, by rw [upd_ne (Ne.symm h1)]; exact e⟩
  · cases e
    exact ⟨p, xs ++ [v], h1, h2, g1, upd_same, dps_app (dpsm h5 n1.g) (.cons dv .nil), h6⟩
theorem sk_shut (o : SkS K l G0 H0 (some (i, ds)) es σ H) (hb : i < es.length) : SkS K l G0 H0 none (es.set i (some (.list ds))) σ H := by
  obtain ⟨G, n, hE, hσ, s, g, ho⟩ := o
  obtain ⟨p, xs, h1, h2, h3, h4, h5, h6⟩ := ho i ds rfl
  refine ⟨upd G p (.lst xs), n.shut h2 h3 h4, ⟨by rw [List.length_set]; exact hE.1, fun j d e => ?_⟩, hσ, s, by rw [upd_ne (Ne.symm h1)]; exact g, fun i ds e => nomatch e⟩
  by_cases hj : i = j
  · subst hj
    rw [List.getElem?_set_self hb] at e
    have e' : PyData.list ds = d := Option.some.inj (Option.some.inj e)
    subst e'
    exact ⟨_, h6, .lst (SqL.of upd_same) (dpsm h5 (same_new h3))⟩
  · rw [List.getElem?_set_ne hj] at e
    obtain ⟨v, e1, e2⟩ := hE.2 j d e
    exact ⟨v, e1, dpm e2 (same_new h3)⟩
/-- for i in range(..) -/
theorem sk_forR {g : TG} {tb : TS} (o : SkS K l G0 H0 ow es σ H) (h : Eas K l tr es Ps) (hP : ∀ ds, Ps ds → ∃ n : Nat, ds = [.int n] ∧ n ≤ 1000) (I : Nat → L2.St → Hp → Prop) (h0 : ∀ H', SkS K l G0 H0 ow es σ H' → I 0 σ H')
    (hs : ∀ i σ' H' N, i < 1000 → I i σ' H' → (∀ σ2 H2, I (i + 1) σ2 H2 → N σ2 H2) → g (.int (i : Int)) σ' H' fun σ2 H2 => tb { D with nx := N, ct := N, bk := D.nx } σ2 H2) (hk : ∀ ds n σ' H', Ps ds → ds = [.int (n : Nat)] → I n σ' H' → D.nx σ' H') : tFor (iRng1 tr) g tb D σ H := by
  obtain ⟨G, n, hE, hσ, s, g, ho⟩ := id o
  refine h σ G H hE n.s g hσ s _ fun vs ds G1 H1 p n1 s1 dv => ?_
  obtain ⟨m, rfl, hm⟩ := hP ds p
  obtain ⟨v, rfl, hv⟩ := dps1 dv
  cases dp_int hv
  refine ⟨(m : Int), rfl, by omega, by omega, ?_⟩
  have hI := h0 H1 (sk_move n s g ho n1 s1 (hE.mono n1.g) hσ fun _ _ _ => rfl)
  refine for_range (lo := 0) (n := (m : Int).toNat) I hI (fun i σ' H' hi hI' => ?_) (fun σ' H' hI' => ?_)
  · rw [Int.zero_add]
    exact hs i σ' H' _ (by omega) hI' fun σ2 H2 q => q
  · rw [Int.toNat_natCast] at hI'
    exact hk _ m σ' H' p rfl hI'
/-- for x in a list -/
theorem sk_forL {g : TG} {tb : TS} {vs : List Nat} (o : SkS K l G0 H0 none es σ H) (h : Ed K te es (.list ds)) (h0 : 0 ∉ vs) (I : Nat → List (Option PyData)) (hI0 : EnLe es (I 0))
    (hs : ∀ i d, ds[i]? = some d → ∃ es1, Gd K g vs (I i) d es1 ∧ ∀ G0 H0 σ' H' N, (∀ σ2 H2, SkS K l G0 H0 none (I (i + 1)) σ2 H2 → N σ2 H2) → SkS K l G0 H0 none es1 σ' H' → tb { D with nx := N, ct := N, bk := D.nx } σ' H') (hk : ∀ σ' H', SkS K l G0 H0 none (I ds.length) σ' H' → D.nx σ' H') : tFor (iList K te) g tb D σ H := by
  obtain ⟨G, n, hE, hσ, s, g, ho⟩ := id o
  refine h σ G H hE n.s _ fun v G1 H1 n1 dv => ?_
  obtain ⟨a, xs, rfl, hq, hd⟩ := dp_lst dv
  have hl := dps_len hd
  refine ⟨a, rfl, ⟨xs, n1.s.seq hq⟩, ?_⟩
  have oo : SkS K l G1 H1 none es σ H1 := sk_start (hE.mono n1.g) n1.s (n1.f l s.ne g) hσ (s.same n1.keep)
  have nn := n.trans n1.up
  have up : ∀ {e σ H}, SkS K l G1 H1 none e σ H → SkS K l G0 H0 none e σ H := fun ⟨G', n', r⟩ => ⟨G', nn.trans n', r.1, r.2.1, r.2.2.1, r.2.2.2.1, fun i ds e => nomatch e⟩
  refine for_list (xs := xs) (fun i σ' H' => SkS K l G1 H1 none (I i) σ' H') (sk_le oo hI0) (fun i σ' H' _ ⟨G', n', _⟩ => (n'.g.trans n'.s).seq hq) (fun i x σ' H' hx ⟨G', n', hE', h0', s', g', _⟩ => ?_) (fun σ' H' o' => ?_)
  · have hi : i < ds.length := by rw [← hl]; exact (List.getElem?_eq_some_iff.mp hx).1
    obtain ⟨w, hw, dw⟩ := dps_get hd (List.getElem?_eq_getElem hi)
    have ex := Option.some.inj (hw.symm.trans hx)
    subst ex
    obtain ⟨es1, hg0, hb⟩ := hs i _ (List.getElem?_eq_getElem hi)
    refine hg0 σ' G' H' w hE' (dpm dw n'.g) n'.s _ fun σ2 hE2 w2 => ?_
    exact hb G1 H1 σ2 H' _ (fun σ3 H3 o3 => o3) ⟨G', n', hE2, by rw [wipe_at w2 h0]; exact h0', s', g', fun i ds e => nomatch e⟩
  · rw [hl] at o'
    exact hk σ' H' (up o')
end
end Wf
set_option Elab.async false
set_option linter.all false
set_option maxRecDepth 100000
set_option maxHeartbeats 4000000
/-! the law's own defs, those without the sack -/
namespace Wf
open PySem PySem.Spec PyProof.Rows L2
local macro_rules | `(tactic| walk_at "mul") => `(tactic| ((try dsimp only); first | exact Or.inl (by omega) | exact Or.inr (by omega)))
local macro_rules | `(tactic| walk_at "ed") => `(tactic| first
  | exact ed_var
  | exact ed_int
  | exact ed_bl
  | exact ed_str
  | (apply ed_add <;> walk_at "ed")
  | (apply ed_sub <;> walk_at "ed")
  | (apply ed_mul <;> first | walk_at "ed" | walk_at "mul")
  | (apply ed_neg <;> walk_at "ed")
  | (apply ed_ixT <;> first | walk_at "ed" | rfl)
  | (apply ed_lt <;> walk_at "ed")
  | (apply ed_le <;> walk_at "ed")
  | (apply ed_gt <;> walk_at "ed")
  | (apply ed_ge <;> walk_at "ed")
  | (apply ed_eqI <;> walk_at "ed")
  | (apply ed_tup <;> first | walk_at "ea" | exact Nat.le_of_ble_eq_true rfl))
local macro_rules | `(tactic| walk_at "ea") => `(tactic| first
  | exact ea_nil
  | (apply ea_cons <;> first | walk_at "ed" | walk_at "ea"))
def R__law_gcd (ds : List PyData) (d : PyData) : Prop := ∃ a b : Int, ds = [.int a, .int b] ∧ d = .int ((Nat.gcd a.natAbs b.natAbs : Nat) : Int)
def R__law_spot (ds : List PyData) (d : PyData) : Prop := ∃ x y w : Int, ds = [.int x, .int y, .int w] ∧ 0 < w ∧ w ≤ 1000 ∧ d = dp (red3 x y w)
def R__law_said (ds : List PyData) (d : PyData) : Prop := ∃ (dots : List Pt) (k : Int), ds = [.list (dots.map dq), .int k] ∧ dots.length ≤ 1000 ∧ 0 < k ∧ k ≤ 1000 ∧ d = .tuple ((dots.map fun q => red3 q.1 q.2 k).map dp)
def bnd (a b c : Pt) : Int := (b.1 - a.1) * (c.2 - a.2) - (b.2 - a.2) * (c.1 - a.1)
def R__law_bend (ds : List PyData) (d : PyData) : Prop := ∃ a b c : Pt, ds = [dq a, dq b, dq c] ∧ Sm2 a ∧ Sm2 b ∧ Sm2 c ∧ d = .int (bnd a b c)
def R__law_chain (ds : List PyData) (d : PyData) : Prop := ∃ rows : List Pt, ds = [.list (rows.map dq)] ∧ rows.length ≤ 1000 ∧ (∀ r ∈ rows, Sm2 r) ∧ d = .list ((chn rows).map dq)
def lrim (dots : List Pt) : List Pt := if (ssort dots).length < 3 then ssort dots else (chn (ssort dots)).dropLast ++ (chn (ssort dots).reverse).dropLast
def R__law_rim (ds : List PyData) (d : PyData) : Prop := ∃ dots : List Pt, ds = [.list (dots.map dq)] ∧ dots.length < 63 ∧ (∀ r ∈ dots, Sm r.1 r.2) ∧ d = .list ((lrim dots).map dq)
def B1000 (p : Pt) : Prop := (-1000000 < p.1 ∧ p.1 < 1000000) ∧ (-1000000 < p.2 ∧ p.2 < 1000000)
def R__law_wind (ds : List PyData) (d : PyData) : Prop := ∃ p : Pt, ds = [.int p.1, .int p.2] ∧ B1000 p ∧ ¬ (p.1 = 0 ∧ p.2 = 0) ∧ d = dq (red p.1 p.2)
def hv (sd : P3) (air q : Pt) : Int := 0 - sd.1 * (air.1 * q.1 - air.2 * q.2) - sd.2.1 * (air.2 * q.1 + air.1 * q.2)
def bst (sd : P3) (air : Pt) (rim : List Pt) : Int := rim.foldl (fun m q => if hv sd air q > m then hv sd air q else m) 0
def drt (fl sd : P3) : Int := sd.1 * fl.1 + sd.2.1 * fl.2.1
def hld (rim : List Pt) (k : Int) (fl sd : P3) (air : Pt) : Bool := decide (drt fl sd ≤ 0) || decide (drt fl sd * drt fl sd * k * k * (air.1 * air.1 + air.2 * air.2) ≤ bst sd air rim * bst sd air rim * fl.2.2 * fl.2.2)
structure HldPre (rim : List Pt) (k : Int) (fl sd : P3) : Prop where
  len : rim.length ≤ 1000
  rim : ∀ q ∈ rim, (-100 < q.1 ∧ q.1 < 100) ∧ (-100 < q.2 ∧ q.2 < 100)
  k : 0 < k ∧ k < 100
  fl : (-100 < fl.1 ∧ fl.1 < 100) ∧ (-100 < fl.2.1 ∧ fl.2.1 < 100) ∧ 0 < fl.2.2 ∧ fl.2.2 < 100
  sd : (-100 < sd.1 ∧ sd.1 < 100) ∧ (-100 < sd.2.1 ∧ sd.2.1 < 100)
def AirOk (air : Pt) : Prop := (-1000 < air.1 ∧ air.1 < 1000) ∧ (-1000 < air.2 ∧ air.2 < 1000)
def boatD (rim : List Pt) (k : Int) : PyData := .list [.list (rim.map dq), .int k]
def R__law_is_held (ds : List PyData) (d : PyData) : Prop := ∃ (rim : List Pt) (k : Int) (fl sd : P3) (air : Pt), ds = [boatD rim k, dp fl, dp sd, dq air] ∧ HldPre rim k fl sd ∧ AirOk air ∧ d = .bool (hld rim k fl sd air)
def agn (sd : P3) (q : Pt) : Pt := (0 - sd.1 * q.1 - sd.2.1 * q.2, sd.1 * q.2 - sd.2.1 * q.1)
def R__law_against (ds : List PyData) (d : PyData) : Prop := ∃ (sd : P3) (q : Pt), ds = [dp sd, .int q.1, .int q.2] ∧ ((-1000 < sd.1 ∧ sd.1 < 1000) ∧ (-1000 < sd.2.1 ∧ sd.2.1 < 1000)) ∧ (-500 < q.1 ∧ q.1 < 500) ∧ (-500 < q.2 ∧ q.2 < 500) ∧ ¬ ((agn sd q).1 = 0 ∧ (agn sd q).2 = 0) ∧ d = dq (red (agn sd q).1 (agn sd q).2)
theorem abs_nat (a : Int) : (if a < 0 then -a else a) = (a.natAbs : Int) := by split <;> omega
theorem nxt_le (x : Int) (A : Nat) (h : x.natAbs ≤ A) : -(A : Int) ≤ x ∧ x ≤ A := by omega
theorem hv_bd {rim : List Pt} {k : Int} {fl sd : P3} {air : Pt} (h : HldPre rim k fl sd) (ha : AirOk air) {q : Pt} (hq : q ∈ rim) : (air.1 * q.1 - air.2 * q.2).natAbs ≤ 200000 ∧ (air.2 * q.1 + air.1 * q.2).natAbs ≤ 200000 ∧ (hv sd air q).natAbs ≤ 100000000 := by
  obtain ⟨r1, r2⟩ := h.rim q hq
  obtain ⟨s1, s2⟩ := h.sd
  obtain ⟨a1, a2⟩ := ha
  have k1 := mul_bd (a := air.1) (b := q.1) (A := 1000) (B := 100) (by omega) (by omega)
  have k2 := mul_bd (a := air.2) (b := q.2) (A := 1000) (B := 100) (by omega) (by omega)
  have k3 := mul_bd (a := air.2) (b := q.1) (A := 1000) (B := 100) (by omega) (by omega)
  have k4 := mul_bd (a := air.1) (b := q.2) (A := 1000) (B := 100) (by omega) (by omega)
  unfold hv
  generalize air.1 * q.1 = X1 at *
  generalize air.2 * q.2 = X2 at *
  generalize air.2 * q.1 = X3 at *
  generalize air.1 * q.2 = X4 at *
  have m1 := mul_bd (a := sd.1) (b := X1 - X2) (A := 100) (B := 200000) (by omega) (by omega)
  have m2 := mul_bd (a := sd.2.1) (b := X3 + X4) (A := 100) (B := 200000) (by omega) (by omega)
  generalize sd.1 * (X1 - X2) = Y1 at *
  generalize sd.2.1 * (X3 + X4) = Y2 at *
  omega
theorem fold_bd (sd : P3) (air : Pt) (B : Int) : ∀ (l : List Pt) (m : Int), 0 ≤ m → m ≤ B → (∀ q ∈ l, hv sd air q ≤ B) → 0 ≤ l.foldl (fun m q => if hv sd air q > m then hv sd air q else m) m ∧ l.foldl (fun m q => if hv sd air q > m then hv sd air q else m) m ≤ B
  | [], m, h0, h1, _ => ⟨h0, h1⟩
  | q :: l, m, h0, h1, h => by
    have hq := h q List.mem_cons_self
    refine fold_bd sd air B l _ ?_ ?_ fun r hr => h r (List.mem_cons_of_mem _ hr)
    · dsimp only; split <;> omega
    · dsimp only; split <;> omega
theorem gcd_okI {a b : Int} (h : ¬ (a = 0 ∧ b = 0)) (ha : -1000000 < a ∧ a < 1000000) (hb : -1000000 < b ∧ b < 1000000) (x : Int) : CDiv x (cdiv [a, b]) := by
  rw [cdiv2]
  have h0 : 0 < Nat.gcd a.natAbs b.natAbs := by
    rcases Nat.eq_zero_or_pos (Nat.gcd a.natAbs b.natAbs) with e | e
    · rw [Nat.gcd_eq_zero_iff] at e
      exact absurd (by omega) h
    · exact e
  have h1 : Nat.gcd a.natAbs b.natAbs ≤ a.natAbs + b.natAbs := by
    by_cases e : a = 0
    · have := Nat.gcd_le_right (m := a.natAbs) (n := b.natAbs) (by omega)
      omega
    · have := Nat.gcd_le_left (m := a.natAbs) (n := b.natAbs) (by omega)
      omega
  exact ⟨by omega, by omega⟩
section
variable {P : Program} {w : World} {K : PySem.W.Frag} {mg : Str → Option Value} {base : Heap} (T : Blt K mg)
include T
theorem ok__law_gcd (D : DefOk K mg "_law_gcd" s__law_gcd p__law_gcd)  : OkF P w K mg base 1 "_law_gcd" s__law_gcd p__law_gcd (spD K R__law_gcd) := by
  refine ok_of D c__law_gcd (fun ds d h => ?_) (fun cdv A outer s H0 E hr => ⟨_, (pss_cons (ps_par (i := 0) (j := 1) rfl c__law_gcd.nd rfl rfl (by decide) rfl rfl (pa_cons (pe_callB call_abs (by rfl) T.abs bb_abs (pa_cons (pv 0) pa_nil)) (pa_cons (pe_callB call_abs (by rfl) T.abs bb_abs (pa_cons (pv 1) pa_nil)) pa_nil)) (by rfl))
    (pss_cons (ps_while PassesOwn.never (pt_cmpR op_ne (pv 1) pe_int (nomark _)) (pss_one (ps_par (i := 0) (j := 1) rfl c__law_gcd.nd rfl rfl (by decide) rfl rfl (pa_cons (pv 1) (pa_cons (pe_op op_mod (pe_callTy call_int1 (by rfl) T.int bb_int (pa_cons (pv 0) pa_nil)) (pv 1)) pa_nil)) (by rfl))))
    (pss_one (ps_ret (pv 0))))), fun ds d h => ?_⟩)
  · obtain ⟨a, b, rfl, _⟩ := h; rfl
  · obtain ⟨a, b, rfl, rfl⟩ := h
    refine st_seq (sn_par (ea_cons (ed_abs ed_var) (ea_cons (ed_abs ed_var) ea_nil))) ?_
    refine st_seq (sn_while (es1 := [some (.int ((Nat.gcd a.natAbs b.natAbs : Nat) : Int)), none]) (fun m es => ∃ x y : Nat, m = y ∧ es = [some (.int x), some (.int y)] ∧ Nat.gcd x y = Nat.gcd a.natAbs b.natAbs) b.natAbs ⟨a.natAbs, b.natAbs, rfl, by rw [← abs_nat, ← abs_nat]; rfl, rfl⟩ (fun es => es = [some (.int ((Nat.gcd a.natAbs b.natAbs : Nat) : Int)), some (.int 0)]) (fun m e1 hI => ?_) fun e1 hf => ?_) (st_ret ed_var)
    · obtain ⟨x, y, rfl, rfl, hg⟩ := hI
      refine ⟨!decide ((m : Int) = 0), et_test (ed_neI ed_var ed_int), fun hb => ?_, fun hb => ?_⟩
      · have hm : m ≠ 0 := by simpa using hb
        refine ⟨x % m, _, Nat.mod_lt _ (by omega), ⟨m, x % m, rfl, rfl, by rw [← hg, Nat.gcd_comm x m, Nat.gcd_rec m x, Nat.gcd_comm]⟩, sn_le (sn_par (ea_cons ed_var (ea_cons (ed_mod (ed_int1 ed_var) ed_var (by omega)) ea_nil))) ⟨rfl, fun j d q => ?_⟩⟩
        match j, q with
        | 0, q => exact q
        | 1, q => rw [← q]; rfl
      · have hm : m = 0 := by simpa using hb
        subst hm
        rw [← hg, Nat.gcd_zero_right]
        rfl
    · rw [hf]
      refine ⟨rfl, fun j d q => ?_⟩
      match j, q with
      | 0, q => exact q
      | 1, q => cases q
theorem ok__law_spot (D : DefOk K mg "_law_spot" s__law_spot p__law_spot) (o__law_gcd : OkF P w K mg base 1 "_law_gcd" s__law_gcd p__law_gcd (spD K R__law_gcd)) : OkF P w K mg base 2 "_law_spot" s__law_spot p__law_spot (spD K R__law_spot) := by
  refine ok_of D c__law_spot (fun ds d h => ?_) (fun cdv A outer s H0 E hr => ⟨_, (pss_cons (ps_set (i := 3) c__law_spot.nd rfl (by first | exact Or.inl rfl | exact Or.inr rfl) (pe_own o__law_gcd (hr.mono (by decide)) (by rfl) (pa_cons (pe_own o__law_gcd (hr.mono (by decide)) (by rfl) (pa_cons (pv 0) (pa_cons (pv 1) pa_nil))) (pa_cons (pv 2) pa_nil))))
    (pss_one (ps_ret (pe_tup (pa_cons (pe_op op_fdiv (pv 0) (pv 3)) (pa_cons (pe_op op_fdiv (pv 1) (pv 3)) (pa_cons (pe_op op_fdiv (pv 2) (pv 3)) pa_nil))))))), fun ds d h => ?_⟩)
  · obtain ⟨x, y, w, rfl, _⟩ := h; rfl
  · obtain ⟨x, y, w, rfl, w0, w1, rfl⟩ := h
    have g := cd3_pos (a := x) (b := y) w0
    have c : ∀ z, CDiv z (cdiv [x, y, w]) := fun z => ⟨g.1, by omega⟩
    refine st_seq (sn_asg (d := .int (cdiv [x, y, w])) (Ed.is (ed_call (ea_cons (ed_call (ea_cons ed_var (ea_cons ed_var ea_nil)) ⟨x, y, rfl, rfl⟩) (ea_cons ed_var ea_nil)) ⟨_, _, rfl, rfl⟩) (by rw [cdiv3, Int.natAbs_natCast]))) ?_
    exact st_ret (ed_tup (ea_cons (ed_fdiv ed_var ed_var (c _)) (ea_cons (ed_fdiv ed_var ed_var (c _)) (ea_cons (ed_fdiv ed_var ed_var (c _)) ea_nil))) (Nat.le_of_ble_eq_true rfl))
theorem ok__law_said (D : DefOk K mg "_law_said" s__law_said p__law_said) (o__law_spot : OkF P w K mg base 2 "_law_spot" s__law_spot p__law_spot (spD K R__law_spot)) : OkF P w K mg base 3 "_law_said" s__law_said p__law_said (spD K R__law_said) := by
  refine ok_of D c__law_said (fun ds d h => ?_) (fun cdv A outer s H0 E hr => ⟨_, (pss_one (ps_ret (pe_callTy call_tuple_of (by rfl) T.tuple bb_tuple (pa_cons (pe_lc (own := [("_law_x", 2), ("_law_y", 3)]) (g := gTup K 2 (gCons (gName 2) (gCons (gName 3) (gNil)))) (tt := tYes) rfl c__law_said.nd (pi_list (pv 0)) (blkOk_by (N := n__law_said) (sc := defScope s__law_said) (by decide +kernel)) (fun _ _ _ _ _ => (pg_tup rfl (pgs_cons (pg_name (i := 2) c__law_said.nd rfl (by first | exact Or.inl rfl | exact Or.inr rfl)) (pgs_cons (pg_name (i := 3) c__law_said.nd rfl (by first | exact Or.inl rfl | exact Or.inr rfl)) pgs_nil)))) (fun _ _ _ _ _ => pts_nil) (fun _ _ _ _ _ => (pe_own o__law_spot (hr.mono (by decide)) (by rfl) (pa_cons (pv 2) (pa_cons (pv 3) (pa_cons (pv 1) pa_nil)))))) pa_nil)))), fun ds d h => ?_⟩)
  · obtain ⟨x, y, rfl, _⟩ := h; rfl
  · obtain ⟨dots, k, rfl, hl, k0, k1, rfl⟩ := h
    refine st_ret (Ed.is (ed_cb (ea_cons (ed_lcL (onq fun x y => dp (red3 x y k)) ed_var (by rw [List.length_map]; omega) fun d hd => ?_) ea_nil) bc_tuple) ?_)
    · obtain ⟨q, hq, rfl⟩ := List.mem_map.mp hd
      exact ⟨_, gd_tup (gs_cons (gd_in (by decide)) (gs_cons (gd_in (by decide)) gs_nil)), ed_call (ea_cons ed_var (ea_cons ed_var (ea_cons ed_var ea_nil))) ⟨q.1, q.2, k, rfl, k0, k1, rfl⟩⟩
    · rw [List.map_map, List.map_map]; rfl
theorem ok__law_bend (D : DefOk K mg "_law_bend" s__law_bend p__law_bend)  : OkF P w K mg base 1 "_law_bend" s__law_bend p__law_bend (spD K R__law_bend) := by
  refine ok_of D c__law_bend (fun ds d h => ?_) (fun cdv A outer s H0 E hr => ⟨_, (pss_one (ps_ret (pe_op op_sub (pe_op op_mul (pe_op op_sub (pe_ix ix_tup (pv 1) pe_int (fun _ _ => rfl)) (pe_ix ix_tup (pv 0) pe_int (fun _ _ => rfl))) (pe_op op_sub (pe_ix ix_tup (pv 2) pe_int (fun _ _ => rfl)) (pe_ix ix_tup (pv 0) pe_int (fun _ _ => rfl)))) (pe_op op_mul (pe_op op_sub (pe_ix ix_tup (pv 1) pe_int (fun _ _ => rfl)) (pe_ix ix_tup (pv 0) pe_int (fun _ _ => rfl))) (pe_op op_sub (pe_ix ix_tup (pv 2) pe_int (fun _ _ => rfl)) (pe_ix ix_tup (pv 0) pe_int (fun _ _ => rfl))))))), fun ds d h => ?_⟩)
  · obtain ⟨a, b, c, rfl, _⟩ := h; rfl
  · obtain ⟨a, b, c, rfl, ha, hb, hc, rfl⟩ := h
    unfold Sm2 at ha hb hc
    exact st_ret (by walk_at "ed")
theorem ok__law_chain (D : DefOk K mg "_law_chain" s__law_chain p__law_chain) (o__law_bend : OkF P w K mg base 1 "_law_bend" s__law_bend p__law_bend (spD K R__law_bend)) : OkF P w K mg base 2 "_law_chain" s__law_chain p__law_chain (spD K R__law_chain) := by
  refine ok_of D c__law_chain (fun ds d h => ?_) (fun cdv A outer s H0 E hr => ⟨_, (pss_cons (ps_set (i := 1) c__law_chain.nd rfl (by first | exact Or.inl rfl | exact Or.inr rfl) (pe_lst pa_nil))
    (pss_cons (ps_for PassesOwn.never rfl (pi_list (pv 0)) (pg_name (i := 2) c__law_chain.nd rfl (by first | exact Or.inl rfl | exact Or.inr rfl)) (pss_cons (ps_while PassesOwn.never (PW.pt (pw_and (pt_cmpR op_gt (pe_callB call_len_seq (by rfl) T.len bb_len (pa_cons (pv 1) pa_nil)) pe_int (nomark _)) (pw_and1 (pt_cmpR op_le (pe_own o__law_bend (hr.mono (by decide)) (by rfl) (pa_cons (pe_ix ix_list (pv 1) (pe_un un_neg pe_int) (fun _ _ => rfl)) (pa_cons (pe_ix ix_list (pv 1) (pe_un un_neg pe_int) (fun _ _ => rfl)) (pa_cons (pv 2) pa_nil)))) pe_int (nomark _))))) (pss_one (ps_expr (pe_bm0 PySem.F.plainAttrs_list PySem.F.slot_list_pop PySem.F.type_list_pop mt_pop (pv 1)))))
    (pss_one (ps_expr (pe_bm PySem.F.plainAttrs_list PySem.F.slot_list_append PySem.F.type_list_append mt_append (pv 1) (pa_cons (pv 2) pa_nil))))))
    (pss_one (ps_ret (pv 1))))), fun ds d h => ?_⟩)
  · obtain ⟨o, rfl, _⟩ := h; rfl
  · obtain ⟨rows, rfl, hn, hsm, rfl⟩ := h
    refine st_chain hn fun st r hst hr' => ?_
    cases st with
    | nil => exact Et.is (et_and (p := false) (Et.is (et_test (ed_gt (ed_lenL ed_var rfl) ed_int)) rfl) (q := false) fun z => nomatch z) rfl
    | cons b t =>
      cases t with
      | nil => exact Et.is (et_and (p := false) (Et.is (et_test (ed_gt (ed_lenL ed_var rfl) ed_int)) rfl) (q := false) fun z => nomatch z) rfl
      | cons a t =>
        have e : ((b :: a :: t).reverse.map dq) = (t.reverse.map dq) ++ [dq a] ++ [dq b] := by simp
        have l2 : ((b :: a :: t).reverse.map dq).length = t.length + 2 := by simp
        refine Et.is (et_and (p := true) (Et.is (et_test (ed_gt (ed_lenL ed_var (by rw [l2])) ed_int)) (decide_eq_true (by omega))) fun _ => et_test (ed_le (ed_call (ea_cons (ed_ixL ed_var (ed_neg ed_int) ?_) (ea_cons (ed_ixL ed_var (ed_neg ed_int) ?_) (ea_cons ed_var ea_nil))) ⟨a, b, r, rfl, hsm a (hst a (by simp)), hsm b (hst b (by simp)), hsm r hr', rfl⟩) ed_int)) ?_
        · rw [e]
          unfold atI ixN
          have hl : (t.reverse.map dq ++ [dq a] ++ [dq b]).length = t.length + 2 := by simp
          rw [hl, if_neg (by decide), if_pos (by omega)]
          have e3 : (-2 + ((t.length + 2 : Nat) : Int)).toNat = t.length := by omega
          show (t.reverse.map dq ++ [dq a] ++ [dq b])[(-2 + ((t.length + 2 : Nat) : Int)).toNat]? = _
          rw [e3, List.append_assoc, List.getElem?_append_right (by simp)]
          simp
        · rw [e]
          exact atI_last _ _
        · show (true && decide (bnd a b r ≤ 0)) = !lft a b r
          unfold bnd lft
          generalize (b.1 - a.1) * (r.2 - a.2) = X
          generalize (b.2 - a.2) * (r.1 - a.1) = Y
          rw [Bool.true_and, ← decide_not]
          exact decide_eq_decide.mpr (by omega)
theorem ok__law_rim (D : DefOk K mg "_law_rim" s__law_rim p__law_rim) (o__law_chain : OkF P w K mg base 2 "_law_chain" s__law_chain p__law_chain (spD K R__law_chain)) : OkF P w K mg base 3 "_law_rim" s__law_rim p__law_rim (spD K R__law_rim) := by
  refine ok_of D c__law_rim (fun ds d h => ?_) (fun cdv A outer s H0 E hr => ⟨_, (pss_cons (ps_set (i := 1) c__law_rim.nd rfl (by first | exact Or.inl rfl | exact Or.inr rfl) (pe_callB (cr_sortedW rfl) (by rfl) T.sorted bb_sorted (pa_cons (pe_callTy (cr_setOfT rfl hr.units) (by rfl) T.set bb_set (pa_cons (pv 0) pa_nil)) pa_nil)))
    (pss_cons (ps_if (pt_cmpR op_lt (pe_callB call_len_seq (by rfl) T.len bb_len (pa_cons (pv 1) pa_nil)) pe_int (nomark _)) (pss_one (ps_ret (pv 1))) pss_nil)
    (pss_one (ps_ret (pe_op op_catL (pe_slice sl_list (pe_own o__law_chain (hr.mono (by decide)) (by rfl) (pa_cons (pv 1) pa_nil)) po_none (po_some (pe_un un_neg pe_int))) (pe_slice sl_list (pe_own o__law_chain (hr.mono (by decide)) (by rfl) (pa_cons (pe_revL (pv 1)) pa_nil)) po_none (po_some (pe_un un_neg pe_int)))))))), fun ds d h => ?_⟩)
  · obtain ⟨o, rfl, _⟩ := h; rfl
  · obtain ⟨dots, rfl, hl, hsm, rfl⟩ := h
    have sl := ssort_len dots
    have hrm : ∀ r ∈ ssort dots, Sm2 r := fun r hr' => hsm r ((mem_ssort r _).mp hr')
    have cl := chn_len (ssort dots)
    have cl2 := chn_len (ssort dots).reverse
    rw [List.length_reverse] at cl2
    refine st_seq (sn_asg (ed_sortlist ed_var hl hsm)) (st_when (et_test (ed_lt (ed_lenL ed_var (by rw [List.length_map])) ed_int)) (fun h => ?_) (fun h => ?_))
    · unfold lrim
      rw [if_pos (by have := of_decide_eq_true h; omega)]
      exact st_ret ed_var
    · unfold lrim
      rw [if_neg (by have := of_decide_eq_false h; omega)]
      refine st_ret (Ed.is (ed_cat (ed_slL (ed_call (ea_cons ed_var ea_nil) ⟨ssort dots, rfl, by omega, hrm, rfl⟩) eo_none (eo_some (ed_neg ed_int))) (ed_slL (ed_call (ea_cons (ed_revL ed_var) ea_nil) ⟨(ssort dots).reverse, by rw [List.map_reverse], by rw [List.length_reverse]; omega, fun r hr' => hrm r (List.mem_reverse.mp hr'), rfl⟩) eo_none (eo_some (ed_neg ed_int))) ?_) ?_)
      · rw [cut_last, cut_last]
        simp only [List.length_dropLast, List.length_map]
        omega
      · rw [cut_last, cut_last, List.map_append, List.map_dropLast, List.map_dropLast]
theorem ok__law_wind (D : DefOk K mg "_law_wind" s__law_wind p__law_wind) (o__law_gcd : OkF P w K mg base 1 "_law_gcd" s__law_gcd p__law_gcd (spD K R__law_gcd)) : OkF P w K mg base 2 "_law_wind" s__law_wind p__law_wind (spD K R__law_wind) := by
  refine ok_of D c__law_wind (fun ds d h => ?_) (fun cdv A outer s H0 E hr => ⟨_, (pss_cons (ps_set (i := 2) c__law_wind.nd rfl (by first | exact Or.inl rfl | exact Or.inr rfl) (pe_own o__law_gcd (hr.mono (by decide)) (by rfl) (pa_cons (pv 0) (pa_cons (pv 1) pa_nil))))
    (pss_one (ps_ret (pe_tup (pa_cons (pe_op op_fdiv (pv 0) (pv 2)) (pa_cons (pe_op op_fdiv (pv 1) (pv 2)) pa_nil)))))), fun ds d h => ?_⟩)
  · obtain ⟨o, rfl, _⟩ := h; rfl
  · obtain ⟨p, rfl, hb, hn, rfl⟩ := h
    have c := gcd_okI hn hb.1 hb.2
    refine st_seq (sn_asg (d := .int (cdiv [p.1, p.2])) (Ed.is (ed_call (ea_cons ed_var (ea_cons ed_var ea_nil)) ⟨_, _, rfl, rfl⟩) (by rw [cdiv2]))) ?_
    exact st_ret (ed_tup (ea_cons (ed_fdiv ed_var ed_var (c _)) (ea_cons (ed_fdiv ed_var ed_var (c _)) ea_nil)) (Nat.le_of_ble_eq_true rfl))
theorem ok__law_is_held (D : DefOk K mg "_law_is_held" s__law_is_held p__law_is_held)  : OkF P w K mg base 1 "_law_is_held" s__law_is_held p__law_is_held (spD K R__law_is_held) := by
  refine ok_of D c__law_is_held (fun ds d h => ?_) (fun cdv A outer s H0 E hr => ⟨_, (pss_cons (ps_asg (pv 2) (pg_tup rfl (pgs_cons (pg_name (i := 4) c__law_is_held.nd rfl (by first | exact Or.inl rfl | exact Or.inr rfl)) (pgs_cons (pg_name (i := 5) c__law_is_held.nd rfl (by first | exact Or.inl rfl | exact Or.inr rfl)) (pgs_cons (pg_name (i := 6) c__law_is_held.nd rfl (by first | exact Or.inl rfl | exact Or.inr rfl)) pgs_nil)))))
    (pss_cons (ps_asg (pv 3) (pg_tup rfl (pgs_cons (pg_name (i := 7) c__law_is_held.nd rfl (by first | exact Or.inl rfl | exact Or.inr rfl)) (pgs_cons (pg_name (i := 8) c__law_is_held.nd rfl (by first | exact Or.inl rfl | exact Or.inr rfl)) pgs_nil))))
    (pss_cons (ps_par (i := 9) (j := 10) rfl c__law_is_held.nd rfl rfl (by decide) rfl rfl (pa_cons (pe_op op_add (pe_op op_mul (pv 4) (pe_ix ix_tup (pv 1) pe_int (fun _ _ => rfl))) (pe_op op_mul (pv 5) (pe_ix ix_tup (pv 1) pe_int (fun _ _ => rfl)))) (pa_cons pe_int pa_nil)) (by rfl))
    (pss_cons (ps_for PassesOwn.never rfl (pi_list (pe_ix ix_list (pv 0) pe_int (fun _ _ => rfl))) (pg_tup rfl (pgs_cons (pg_name (i := 11) c__law_is_held.nd rfl (by first | exact Or.inl rfl | exact Or.inr rfl)) (pgs_cons (pg_name (i := 12) c__law_is_held.nd rfl (by first | exact Or.inl rfl | exact Or.inr rfl)) pgs_nil))) (pss_one (ps_set (i := 10) c__law_is_held.nd rfl (by first | exact Or.inl rfl | exact Or.inr rfl) (pe_callB (call_max2 rfl) (by rfl) T.max bb_max (pa_cons (pv 10) (pa_cons (pe_op op_sub (pe_op op_sub pe_int (pe_op op_mul (pv 4) (pe_op op_sub (pe_op op_mul (pv 7) (pv 11)) (pe_op op_mul (pv 8) (pv 12))))) (pe_op op_mul (pv 5) (pe_op op_add (pe_op op_mul (pv 8) (pv 11)) (pe_op op_mul (pv 7) (pv 12))))) pa_nil))))))
    (pss_one (ps_ret (pe_or (pe_cmpR op_le (pv 9) pe_int (nomark _)) (pe_one (pe_cmpR op_le (pe_op op_mul (pe_op op_mul (pe_op op_mul (pe_op op_mul (pv 9) (pv 9)) (pe_ix ix_list (pv 0) pe_int (fun _ _ => rfl))) (pe_ix ix_list (pv 0) pe_int (fun _ _ => rfl))) (pe_op op_add (pe_op op_mul (pv 7) (pv 7)) (pe_op op_mul (pv 8) (pv 8)))) (pe_op op_mul (pe_op op_mul (pe_op op_mul (pv 10) (pv 10)) (pe_ix ix_tup (pv 1) pe_int (fun _ _ => rfl))) (pe_ix ix_tup (pv 1) pe_int (fun _ _ => rfl))) (nomark _)))))))))), fun ds d h => ?_⟩)
  · obtain ⟨r, k, f, s, a, rfl, _⟩ := h; rfl
  · obtain ⟨rim, k, fl, sd, air, rfl, hp, ha, rfl⟩ := h
    obtain ⟨hl1, hl2, hl3⟩ := hp.fl
    obtain ⟨hs1, hs2⟩ := hp.sd
    obtain ⟨ha1, ha2⟩ := ha
    obtain ⟨hk1, hk2⟩ := hp.k
    have drb : (drt fl sd).natAbs ≤ 20000 := by
      have k1 := mul_bd (a := sd.1) (b := fl.1) (A := 100) (B := 100) (by omega) (by omega)
      have k2 := mul_bd (a := sd.2.1) (b := fl.2.1) (A := 100) (B := 100) (by omega) (by omega)
      unfold drt
      omega
    have bb : ∀ n, 0 ≤ bst sd air (rim.take n) ∧ bst sd air (rim.take n) ≤ 100000000 := fun n => fold_bd sd air 100000000 _ 0 (by decide) (by decide) fun q hq => by have := (hv_bd hp ⟨ha1, ha2⟩ (List.mem_of_mem_take hq)).2.2; omega
    refine st_seq (sn_asgG ed_var (gn_tup (gsn_cons gn_name (gsn_cons gn_name (gsn_cons gn_name gsn_nil))))) ?_
    refine st_seq (sn_asgG ed_var (gn_tup (gsn_cons gn_name (gsn_cons gn_name gsn_nil)))) ?_
    refine st_seq (sn_par (d1 := .int (drt fl sd)) (d2 := .int 0) (ea_cons (by walk_at "ed") (ea_cons ed_int ea_nil))) ?_
    refine st_seq (sn_forL (ds := rim.map dq) (fun i => [some (boatD rim k), some (dp fl), some (dp sd), some (dq air), some (.int sd.1), some (.int sd.2.1), some (.int sd.2.2), some (.int air.1), some (.int air.2), some (.int (drt fl sd)), some (.int (bst sd air (rim.take i))), none, none]) (ed_ixL ed_var ed_int rfl) ⟨rfl, fun j d q => ?_⟩ fun i d hi => ?_) ?_
    · match j, q with
      | 0, q => exact q
      | 1, q => exact q
      | 2, q => exact q
      | 3, q => exact q
      | 4, q => exact q
      | 5, q => exact q
      | 6, q => exact q
      | 7, q => exact q
      | 8, q => exact q
      | 9, q => exact q
      | 10, q => exact q
      | 11, q => cases q
      | 12, q => cases q
    · rw [List.getElem?_map] at hi
      cases e : rim[i]? with
      | none => rw [e] at hi; cases hi
      | some p =>
        rw [e] at hi
        cases hi
        have mem : p ∈ rim := List.mem_of_getElem? e
        obtain ⟨b1, b2, b3⟩ := hv_bd hp ⟨ha1, ha2⟩ mem
        obtain ⟨r1, r2⟩ := hp.rim p mem
        have en : bst sd air (rim.take (i + 1)) = (if hv sd air p > bst sd air (rim.take i) then hv sd air p else bst sd air (rim.take i)) := by
          unfold bst
          rw [List.take_add_one, e, List.foldl_append]
          rfl
        refine ⟨_, gn_tup (gsn_cons gn_name (gsn_cons gn_name gsn_nil)), sn_le (sn_asg (Ed.is (ed_cb (ea_cons ed_var (ea_cons (d := .int (hv sd air p)) (by walk_at "ed") ea_nil)) bc_max2) rfl)) ⟨rfl, fun j d q => ?_⟩⟩
        match j, q with
        | 0, q => exact q
        | 1, q => exact q
        | 2, q => exact q
        | 3, q => exact q
        | 4, q => exact q
        | 5, q => exact q
        | 6, q => exact q
        | 7, q => exact q
        | 8, q => exact q
        | 9, q => exact q
        | 10, q => rw [en] at q; exact q
        | 11, q => cases q
        | 12, q => cases q
    · have eT : rim.take (rim.map dq).length = rim := by rw [List.length_map, List.take_length]
      have bb' := bb (rim.map dq).length
      rw [eT] at bb' ⊢
      refine st_ret (ed_orV (ed_le ed_var ed_int) fun _ => ed_le (ed_mul (ed_mul (ed_mul (ed_mul ed_var ed_var (.inl (by omega))) (ed_ixL ed_var ed_int rfl) (.inr (by omega))) (ed_ixL ed_var ed_int rfl) (.inr (by omega))) (ed_add (ed_mul ed_var ed_var (.inl (by omega))) (ed_mul ed_var ed_var (.inl (by omega)))) (.inr ?_)) (ed_mul (ed_mul (ed_mul ed_var ed_var (.inl (by omega))) (ed_ixT ed_var ed_int rfl) (.inr (by omega))) (ed_ixT ed_var ed_int rfl) (.inr (by omega))))
      have k1 := mul_bd (a := air.1) (b := air.1) (A := 1000) (B := 1000) (by omega) (by omega)
      have k2 := mul_bd (a := air.2) (b := air.2) (A := 1000) (B := 1000) (by omega) (by omega)
      generalize air.1 * air.1 = X at *
      generalize air.2 * air.2 = Y at *
      omega
theorem ok__law_against (D : DefOk K mg "_law_against" s__law_against p__law_against) (o__law_wind : OkF P w K mg base 2 "_law_wind" s__law_wind p__law_wind (spD K R__law_wind)) : OkF P w K mg base 3 "_law_against" s__law_against p__law_against (spD K R__law_against) := by
  refine ok_of D c__law_against (fun ds d h => ?_) (fun cdv A outer s H0 E hr => ⟨_, (pss_cons (ps_asg (pv 0) (pg_tup rfl (pgs_cons (pg_name (i := 3) c__law_against.nd rfl (by first | exact Or.inl rfl | exact Or.inr rfl)) (pgs_cons (pg_name (i := 4) c__law_against.nd rfl (by first | exact Or.inl rfl | exact Or.inr rfl)) (pgs_cons (pg_name (i := 5) c__law_against.nd rfl (by first | exact Or.inl rfl | exact Or.inr rfl)) pgs_nil)))))
    (pss_one (ps_ret (pe_own o__law_wind (hr.mono (by decide)) (by rfl) (pa_cons (pe_op op_sub (pe_op op_sub pe_int (pe_op op_mul (pv 3) (pv 1))) (pe_op op_mul (pv 4) (pv 2))) (pa_cons (pe_op op_sub (pe_op op_mul (pv 3) (pv 2)) (pe_op op_mul (pv 4) (pv 1))) pa_nil)))))), fun ds d h => ?_⟩)
  · obtain ⟨s, q, rfl, _⟩ := h; rfl
  · obtain ⟨sd, q, rfl, hs, hq1, hq2, hn, rfl⟩ := h
    obtain ⟨hs1, hs2⟩ := hs
    refine st_seq (sn_asgG ed_var (gn_tup (gsn_cons gn_name (gsn_cons gn_name (gsn_cons gn_name gsn_nil))))) ?_
    have k1 := mul_bd (a := sd.1) (b := q.1) (A := 999) (B := 499) (by omega) (by omega)
    have k2 := mul_bd (a := sd.2.1) (b := q.2) (A := 999) (B := 499) (by omega) (by omega)
    have k3 := mul_bd (a := sd.1) (b := q.2) (A := 999) (B := 499) (by omega) (by omega)
    have k4 := mul_bd (a := sd.2.1) (b := q.1) (A := 999) (B := 499) (by omega) (by omega)
    refine st_ret (ed_call (ea_cons (d := .int (agn sd q).1) (by walk_at "ed") (ea_cons (d := .int (agn sd q).2) (by walk_at "ed") ea_nil)) ⟨agn sd q, rfl, ?_, hn, rfl⟩)
    unfold B1000 agn
    dsimp only
    generalize sd.1 * q.1 = X1 at *
    generalize sd.2.1 * q.2 = X2 at *
    generalize sd.1 * q.2 = X3 at *
    generalize sd.2.1 * q.1 = X4 at *
    clear hn
    omega
end
end Wf
set_option Elab.async false
set_option linter.all false
set_option maxRecDepth 100000
set_option maxHeartbeats 2000000
/-! what the law compares: names -/
namespace Wf
open PySem PySem.Spec PyProof.Rows L2
def said (rim : List Pt) (k : Int) : List P3 := rim.map fun q => red3 q.1 q.2 k
def Sm8 (q : Pt) : Prop := (-9 < q.1 ∧ q.1 < 9) ∧ (-9 < q.2 ∧ q.2 < 9)
structure BoatOk (rim : List Pt) (k : Int) : Prop where
  of : ∃ dots : List Pt, rim = lrim dots ∧ (∀ q ∈ dots, Sm8 q) ∧ ((0, 0) : Pt) ∈ dots ∧ dots.length < 20
  len : 3 ≤ rim.length
  k : 0 < k ∧ k < 4
structure FlowOk (fl : P3) : Prop where
  v : VecOk fl
  s : (-6 < fl.1 ∧ fl.1 < 6) ∧ (-6 < fl.2.1 ∧ fl.2.1 < 6) ∧ fl.2.2 < 7
structure SdeOk (sd : P3) : Prop where
  v : SideOk sd
  s : (-4 < sd.1 ∧ sd.1 < 4) ∧ (-4 < sd.2.1 ∧ sd.2.1 < 4)
def WndOk (air : Pt) : Prop := cdiv [air.1, air.2] = 1 ∧ AirOk air
def prv (rim : List Pt) (i : Nat) : Pt := rim.getD (if i = 0 then rim.length - 1 else i - 1) (0, 0)
def cur (rim : List Pt) (i : Nat) : Pt := rim.getD i (0, 0)
def enr (rim : List Pt) (i : Nat) : Pt := ((cur rim i).2 - (prv rim i).2, (prv rim i).1 - (cur rim i).1)
def wst (rim : List Pt) (sd : P3) (i : Nat) : Pt := red (agn sd (enr rim i)).1 (agn sd (enr rim i)).2
def bsw (sd : P3) (q : Pt) : Pt := red (agn sd q).1 (agn sd q).2
def nz (q : Pt) : Bool := !decide (q.1 = 0) || !decide (q.2 = 0)
def allW (rim : List Pt) (k : Int) (fl sd : P3) : Bool := (List.range rim.length).all fun i => hld rim k fl sd (wst rim sd i)
def anyB (rim : List Pt) (k : Int) (fl sd : P3) : Bool := (rim.filter nz).any fun q => hld rim k fl sd (bsw sd q)
def dueS (rim : List Pt) (k : Int) (fl sd : P3) : Str := if allW rim k fl sd then "all" else if anyB rim k fl sd then "some" else "none"
end Wf
set_option Elab.async false
set_option linter.all false
set_option maxRecDepth 100000
set_option maxHeartbeats 2000000
/-! plain law: the chains of a sorted list of points -/
namespace Wf
open PySem PySem.Spec PyProof.Rows L2
def crs (u v : Pt) : Int := u.1 * v.2 - u.2 * v.1
def dot (n q : Pt) : Int := n.1 * q.1 + n.2 * q.2
def sub2 (a b : Pt) : Pt := (a.1 - b.1, a.2 - b.2)
/-- above nought in the order -/
def Up (u : Pt) : Prop := 0 < u.1 ∨ (u.1 = 0 ∧ 0 < u.2)
theorem lft_iff {a b c : Pt} : lft a b c = true ↔ 0 < bnd a b c := by
  unfold lft bnd
  rw [decide_eq_true_iff]
  omega
theorem up_of {a b : Pt} (h : ltP a b = true) : Up (sub2 b a) := by
  rw [ltP_iff] at h
  unfold Up sub2
  dsimp only
  omega
theorem crs_id (u v w : Pt) : v.1 * crs u w = u.1 * crs v w + w.1 * crs u v := by unfold crs; grind
theorem crs_id2 (u v w : Pt) : v.2 * crs u w = u.2 * crs v w + w.2 * crs u v := by unfold crs; grind
theorem bnd_crs (a b c : Pt) : bnd a b c = crs (sub2 b a) (sub2 c b) := by unfold bnd crs sub2; grind
theorem bnd_crs2 (a b c : Pt) : bnd a b c = crs (sub2 b a) (sub2 c a) := by unfold bnd crs sub2; grind
theorem bnd_cyc (a b c : Pt) : bnd a b c = bnd b c a := by unfold bnd; grind
theorem bnd_swap (a b c : Pt) : bnd a c b = - bnd a b c := by unfold bnd; grind
theorem bnd_aa (a b : Pt) : bnd a b a = 0 := by unfold bnd; grind
theorem bnd_bb (a b : Pt) : bnd a b b = 0 := by unfold bnd; grind
theorem pos_right {a b : Int} (h : 0 < a) (p : 0 < a * b) : 0 < b := by
  by_cases z : 0 < b
  · exact z
  · have q : 0 ≤ a * (-b) := Int.mul_nonneg (by omega) (by omega)
    rw [Int.mul_neg] at q
    omega
/-- turning left carries over -/
theorem crs_tr {u v w : Pt} (hu : Up u) (hv : Up v) (hw : Up w) (h1 : 0 < crs u v) (h2 : 0 < crs v w) : 0 < crs u w := by
  have e := crs_id u v w
  unfold Up at hu hv hw
  by_cases v0 : v.1 = 0
  · -- v is straight up
    have v2 : 0 < v.2 := by omega
    unfold crs at h2
    rw [v0, Int.zero_mul] at h2
    have : 0 ≤ v.2 * w.1 := Int.mul_nonneg (by omega) (by omega)
    omega
  · have v1 : 0 < v.1 := by omega
    have p1 : 0 ≤ u.1 * crs v w := Int.mul_nonneg (by omega) (by omega)
    have p2 : 0 ≤ w.1 * crs u v := Int.mul_nonneg (by omega) (by omega)
    by_cases hu0 : u.1 = 0
    · -- u straight up: crs u v = - u.2 * v.1 < 0
      have u2 : 0 < u.2 := by omega
      unfold crs at h1
      rw [hu0, Int.zero_mul] at h1
      have : 0 < u.2 * v.1 := Int.mul_pos u2 v1
      omega
    · have p3 : 0 < u.1 * crs v w := Int.mul_pos (by omega) h2
      have p4 : 0 < v.1 * crs u w := by omega
      exact pos_right v1 p4
theorem k2 {x a b r : Pt} (h1 : ltP x a = true) (h2 : ltP a b = true) (h3 : ltP b r = true) (c1 : 0 < bnd x a b) (c2 : 0 < bnd a b r) : 0 < bnd x b r ∧ 0 < bnd x a r := by
  have u := up_of h1
  have v := up_of h2
  have w := up_of h3
  rw [bnd_crs] at c1 c2
  have c3 := crs_tr u v w c1 c2
  have e1 : bnd x b r = crs (sub2 a x) (sub2 r b) + crs (sub2 b a) (sub2 r b) := by unfold bnd crs sub2; grind
  have e2 : bnd x a r = crs (sub2 a x) (sub2 b a) + crs (sub2 a x) (sub2 r b) := by unfold bnd crs sub2; grind
  omega
/-- the point that is dropped is beaten -/
theorem k1 {a b r n : Pt} (h1 : ltP a b = true) (h2 : ltP b r = true) (c : ¬ 0 < bnd a b r) (hn : n.2 ≤ 0) : dot n b ≤ dot n a ∨ dot n b ≤ dot n r := by
  have u := up_of h1
  have v := up_of h2
  rw [bnd_crs] at c
  have e1 : dot n (sub2 b a) = dot n b - dot n a := by unfold dot sub2; grind
  have e2 : dot n (sub2 r b) = dot n r - dot n b := by unfold dot sub2; grind
  have id1 : (sub2 r b).1 * dot n (sub2 b a) - (sub2 b a).1 * dot n (sub2 r b) = (-n.2) * crs (sub2 b a) (sub2 r b) := by unfold dot crs; grind
  generalize sub2 b a = U at *
  generalize sub2 r b = W at *
  by_cases h : dot n b ≤ dot n a ∨ dot n b ≤ dot n r
  · exact h
  · exfalso
    have d1 : 0 < dot n U := by omega
    have d2 : dot n W < 0 := by omega
    unfold Up at u v
    have q1 : 0 ≤ (-n.2) * (- crs U W) := Int.mul_nonneg (by omega) (by omega)
    have q2 : (-n.2) * (- crs U W) = - ((-n.2) * crs U W) := by grind
    have p1 : 0 ≤ W.1 * dot n U := Int.mul_nonneg (by omega) (by omega)
    have p2 : 0 ≤ U.1 * (- dot n W) := Int.mul_nonneg (by omega) (by omega)
    have p2' : U.1 * (- dot n W) = - (U.1 * dot n W) := by grind
    by_cases u0 : U.1 = 0
    · have u2 : 0 < U.2 := by omega
      have z : dot n U = n.2 * U.2 := by unfold dot; rw [u0]; omega
      have : 0 ≤ (-n.2) * U.2 := Int.mul_nonneg (by omega) (by omega)
      have e : (-n.2) * U.2 = - (n.2 * U.2) := by grind
      omega
    · have p3 : 0 < U.1 * (- dot n W) := Int.mul_pos (by omega) (by omega)
      omega
/-! ### the stack -/
def Dsc (st : List Pt) : Prop := st.Pairwise fun p q => ltP q p = true
def CvxR (st : List Pt) : Prop := ∀ a b c, [c, b, a].Sublist st → 0 < bnd a b c
theorem popS_suffix (r : Pt) : ∀ st : List Pt, popS r st <:+ st
  | [] => List.suffix_refl _
  | [b] => List.suffix_refl _
  | b :: a :: t => by
    unfold popS
    split
    · exact List.suffix_refl _
    · exact (popS_suffix r (a :: t)).trans (List.suffix_cons _ _)
theorem popS_top (r : Pt) : ∀ st : List Pt, ∀ b a t, popS r st = b :: a :: t → 0 < bnd a b r
  | [], _, _, _, h => by simp [popS] at h
  | [b], _, _, _, h => by simp [popS] at h
  | b :: a :: t, b', a', t', h => by
    unfold popS at h
    split at h
    · rename_i hl
      injection h with h1 h2
      injection h2 with h2 h3
      subst h1 h2
      exact lft_iff.mp hl
    · exact popS_top r (a :: t) b' a' t' h
theorem popS_dom {n r : Pt} (hn : n.2 ≤ 0) : ∀ st : List Pt, Dsc st → (∀ x ∈ st, ltP x r = true) → ∀ x ∈ st, ∃ c ∈ r :: popS r st, dot n x ≤ dot n c
  | [], _, _, x, hx => absurd hx (by simp)
  | [b], _, _, x, hx => ⟨x, List.mem_cons_of_mem _ hx, Int.le_refl _⟩
  | b :: a :: t, hd, hr, x, hx => by
    unfold popS
    split
    · exact ⟨x, List.mem_cons_of_mem _ hx, Int.le_refl _⟩
    · rename_i hl
      obtain ⟨h1, h2⟩ := List.pairwise_cons.mp hd
      have ih := popS_dom hn (a :: t) h2 fun y hy => hr y (List.mem_cons_of_mem _ hy)
      rcases List.mem_cons.mp hx with e | e
      · rw [e]
        rcases k1 (h1 a List.mem_cons_self) (hr b List.mem_cons_self) (fun z => hl (lft_iff.mpr z)) hn with z | z
        · obtain ⟨c, hc, hz⟩ := ih a List.mem_cons_self
          exact ⟨c, hc, by omega⟩
        · exact ⟨r, List.mem_cons_self, z⟩
      · exact ih x e
theorem cvx_pair {r : Pt} : ∀ st : List Pt, Dsc st → CvxR st → (∀ x ∈ st, ltP x r = true) → (∀ b a t, st = b :: a :: t → 0 < bnd a b r) → st.Pairwise fun b a => 0 < bnd a b r
  | [], _, _, _, _ => .nil
  | [b], _, _, _, _ => List.pairwise_singleton _ _
  | b :: a :: t, hd, hc, hr, htop => by
    obtain ⟨h1, h2⟩ := List.pairwise_cons.mp hd
    have hba := htop b a t rfl
    have la := h1 a List.mem_cons_self
    have lb := hr b List.mem_cons_self
    have far : ∀ x ∈ t, 0 < bnd x b r ∧ 0 < bnd x a r := fun x hx => by
      have sl : [b, a, x].Sublist (b :: a :: t) := ((List.singleton_sublist.mpr hx).cons_cons a).cons_cons b
      exact k2 ((List.pairwise_cons.mp h2).1 x hx) la lb (hc x a b sl) hba
    refine List.pairwise_cons.mpr ⟨fun x hx => ?_, cvx_pair (a :: t) h2 (fun p q s hs => hc p q s (hs.cons b)) (fun x hx => hr x (List.mem_cons_of_mem _ hx)) fun b' a' t' e => ?_⟩
    · rcases List.mem_cons.mp hx with e | e
      · rw [e]; exact hba
      · exact (far x e).1
    · injection e with e1 e2
      subst e1
      exact (far a' (by rw [e2]; exact List.mem_cons_self)).2
structure StI (done st : List Pt) : Prop where
  d : Dsc st
  c : CvxR st
  m : ∀ x ∈ st, x ∈ done
  dom : ∀ n : Pt, n.2 ≤ 0 → ∀ s ∈ done, ∃ x ∈ st, dot n s ≤ dot n x
  top : st.head? = done.getLast?
  bot : st.getLast? = done.head?
theorem popS_ne {r : Pt} : ∀ st : List Pt, st ≠ [] → (popS r st).getLast? = st.getLast?
  | [], h => absurd rfl h
  | [b], _ => rfl
  | b :: a :: t, _ => by
    unfold popS
    split
    · rfl
    · rw [popS_ne (a :: t) (by simp), List.getLast?_cons_cons]
theorem sti_push {done st : List Pt} {r : Pt} (h : StI done st) (hr : ∀ x ∈ done, ltP x r = true) : StI (done ++ [r]) (pushS st r) := by
  have sf := popS_suffix r st
  have hr' : ∀ x ∈ st, ltP x r = true := fun x hx => hr x (h.m x hx)
  have sl := sf.sublist
  have pd : Dsc (popS r st) := List.Pairwise.sublist sl h.d
  have pc : CvxR (popS r st) := fun a b c hs => h.c a b c (hs.trans sl)
  have pr : ∀ x ∈ popS r st, ltP x r = true := fun x hx => hr' x (sl.subset hx)
  have pp := cvx_pair _ pd pc pr (popS_top r st)
  refine ⟨List.pairwise_cons.mpr ⟨pr, pd⟩, fun a b c hs => ?_, fun x hx => ?_, fun n hn s hs => ?_, ?_, ?_⟩
  · unfold pushS at hs
    cases hs with
    | cons _ hs => exact pc a b c hs
    | cons_cons _ hs => exact List.pairwise_iff_forall_sublist.mp pp hs
  · rcases List.mem_cons.mp hx with e | e
    · rw [e]; exact List.mem_append_right _ (List.mem_singleton.mpr rfl)
    · exact List.mem_append_left _ (h.m x (sl.subset e))
  · rcases List.mem_append.mp hs with e | e
    · obtain ⟨x, hx, hle⟩ := h.dom n hn s e
      obtain ⟨c, hc, hle2⟩ := popS_dom hn st h.d hr' x hx
      exact ⟨c, hc, by omega⟩
    · rw [List.mem_singleton.mp e]
      exact ⟨r, List.mem_cons_self, Int.le_refl _⟩
  · simp [pushS]
  · unfold pushS
    by_cases e : st = []
    · subst e
      have : done = [] := by
        have := h.bot
        cases done with
        | nil => rfl
        | cons _ _ => simp at this
      rw [this]; simp [popS]
    · have z := popS_ne (r := r) st e
      have ne : popS r st ≠ [] := fun q => by
        rw [q] at z
        exact e (List.getLast?_eq_none_iff.mp z.symm)
      have dn : done ≠ [] := fun q => by
        have := h.bot
        rw [q] at this
        simp at this
        exact e this
      have g1 : (r :: popS r st).getLast? = (popS r st).getLast? := by
        cases hq : popS r st with
        | nil => exact absurd hq ne
        | cons a t => rw [List.getLast?_cons_cons]
      rw [g1, z, h.bot]
      cases done with
      | nil => exact absurd rfl dn
      | cons a t => rfl
theorem sti_fold : ∀ (l done st : List Pt), StI done st → Asc (done ++ l) → StI (done ++ l) (l.foldl pushS st)
  | [], done, st, h, _ => by rw [List.append_nil]; exact h
  | r :: l, done, st, h, ha => by
    have e : done ++ r :: l = (done ++ [r]) ++ l := by simp
    rw [e] at ha ⊢
    refine sti_fold l (done ++ [r]) (pushS st r) (sti_push h fun x hx => ?_) ha
    have := (List.pairwise_append.mp (List.pairwise_append.mp ha).1).2.2
    exact this x hx r (List.mem_singleton.mpr rfl)
/-! ### the chain -/
def CvxA (l : List Pt) : Prop := ∀ a b c, [a, b, c].Sublist l → 0 < bnd a b c
structure Chn (S C : List Pt) : Prop where
  asc : Asc C
  cvx : CvxA C
  sub : ∀ x ∈ C, x ∈ S
  dom : ∀ n : Pt, n.2 ≤ 0 → ∀ s ∈ S, ∃ x ∈ C, dot n s ≤ dot n x
  head : C.head? = S.head?
  last : C.getLast? = S.getLast?
theorem chn_chn {S : List Pt} (h : Asc S) : Chn S (chn S) := by
  have z := sti_fold S [] [] ⟨.nil, fun a b c hs => by simp at hs, fun x hx => hx, fun n hn s hs => absurd hs (by simp), rfl, rfl⟩ h
  rw [List.nil_append] at z
  unfold chn
  refine ⟨List.pairwise_reverse.mpr z.d, fun a b c hs => z.c a b c ?_, fun x hx => z.m x (List.mem_reverse.mp hx), fun n hn s hs => ?_, ?_, ?_⟩
  · have := List.Sublist.reverse hs
    rw [List.reverse_reverse] at this
    exact this
  · obtain ⟨x, hx, hle⟩ := z.dom n hn s hs
    exact ⟨x, List.mem_reverse.mpr hx, hle⟩
  · rw [List.head?_reverse]; exact z.bot
  · rw [List.getLast?_reverse]; exact z.top
/-- an edge -/
def Adj (l : List Pt) (a b : Pt) : Prop := ∃ s t, l = s ++ a :: b :: t
theorem Chn.lt {S C : List Pt} (h : Chn S C) {a b : Pt} (e : Adj C a b) : ltP a b = true := by
  obtain ⟨s, t, e⟩ := e
  have := h.asc
  rw [e] at this
  exact (List.pairwise_cons.mp (List.pairwise_append.mp this).2.1).1 b List.mem_cons_self
theorem cvx_edge {C : List Pt} (h : CvxA C) {a b : Pt} (e : Adj C a b) {c : Pt} (hc : c ∈ C) : c = a ∨ c = b ∨ 0 < bnd a b c := by
  obtain ⟨s, t, e⟩ := e
  rw [e] at hc
  rcases List.mem_append.mp hc with z | z
  · refine .inr (.inr ?_)
    rw [bnd_cyc, bnd_cyc]
    refine h c a b ?_
    rw [e]
    exact (List.singleton_sublist.mpr z).append (((List.nil_sublist t).cons_cons b).cons_cons a)
  · rcases List.mem_cons.mp z with z | z
    · exact .inl z
    · rcases List.mem_cons.mp z with z | z
      · exact .inr (.inl z)
      · refine .inr (.inr (h a b c ?_))
        rw [e]
        exact (((List.singleton_sublist.mpr z).cons_cons b).cons_cons a).trans (List.sublist_append_right _ _)
theorem cvx_edge0 {C : List Pt} (h : CvxA C) {a b : Pt} (e : Adj C a b) {c : Pt} (hc : c ∈ C) : 0 ≤ bnd a b c := by
  rcases cvx_edge h e hc with z | z | z
  · rw [z, bnd_aa]; exact Int.le_refl _
  · rw [z, bnd_bb]; exact Int.le_refl _
  · exact Int.le_of_lt z
theorem Chn.edge {S C : List Pt} (h : Chn S C) {a b : Pt} (e : Adj C a b) {q : Pt} (hq : q ∈ S) : 0 ≤ bnd a b q := by
  have hl := h.lt e
  rw [ltP_iff] at hl
  obtain ⟨c, hc, hle⟩ := h.dom (b.2 - a.2, a.1 - b.1) (by show a.1 - b.1 ≤ 0; omega) q hq
  have z := cvx_edge0 h.cvx e hc
  have e1 : ∀ x : Pt, bnd a b x = dot (b.2 - a.2, a.1 - b.1) a - dot (b.2 - a.2, a.1 - b.1) x := fun x => by unfold bnd dot; grind
  rw [e1] at z ⊢
  omega
/-! ### the chain is the only one -/
theorem k3 {a b1 b2 c : Pt} (h1 : ltP a b1 = true) (h2 : ltP b1 b2 = true) (h3 : ltP b1 c = true) (c1 : bnd a b1 b2 = 0) (c2 : 0 < bnd a b1 c) (c3 : 0 ≤ bnd b1 c b2) : False := by
  have u := up_of h1
  have w := up_of h2
  have v := up_of h3
  rw [bnd_crs] at c1 c2
  rw [bnd_crs2] at c3
  generalize sub2 b1 a = U at *
  generalize sub2 b2 b1 = W at *
  generalize sub2 c b1 = V at *
  have e := crs_id U V W
  rw [c1, Int.mul_zero] at e
  unfold Up at u v w
  have p1 : 0 ≤ U.1 * crs V W := Int.mul_nonneg (by omega) c3
  have p2 : 0 ≤ W.1 * crs U V := Int.mul_nonneg (by omega) (by omega)
  have p3 : W.1 * crs U V = 0 := by omega
  have w1 : W.1 = 0 := by
    rcases Int.mul_eq_zero.mp p3 with z | z
    · exact z
    · omega
  have w2 : 0 < W.2 := by omega
  unfold crs at c1 c2
  rw [w1, Int.mul_zero] at c1
  have u1 : U.1 = 0 := by
    rcases Int.mul_eq_zero.mp (show U.1 * W.2 = 0 by omega) with z | z
    · exact z
    · omega
  rw [u1, Int.zero_mul] at c2
  have : 0 ≤ U.2 * V.1 := Int.mul_nonneg (by omega) (by omega)
  omega
theorem last_ge : ∀ {l : List Pt} {a M : Pt}, Asc (a :: l) → (a :: l).getLast? = some M → l = [] ∧ a = M ∨ ltP a M = true ∧ ∀ x ∈ l, x = M ∨ ltP x M = true
  | [], a, M, _, h => .inl ⟨rfl, by simpa using h⟩
  | b :: l, a, M, h, hl => by
    obtain ⟨h1, h2⟩ := List.pairwise_cons.mp h
    rw [List.getLast?_cons_cons] at hl
    rcases last_ge h2 hl with ⟨z, e⟩ | ⟨z, e⟩
    · subst z e
      exact .inr ⟨h1 b List.mem_cons_self, fun x hx => .inl (List.mem_singleton.mp hx)⟩
    · refine .inr ⟨ltP_tr (h1 b List.mem_cons_self) z, fun x hx => ?_⟩
      rcases List.mem_cons.mp hx with q | q
      · rw [q]; exact .inr z
      · exact e x q
theorem chain_uq : ∀ (l1 l2 : List Pt) (a M : Pt), Asc (a :: l1) → Asc (a :: l2) → CvxA (a :: l1) → CvxA (a :: l2) → (a :: l1).getLast? = some M → (a :: l2).getLast? = some M →
    (∀ p q, Adj (a :: l1) p q → ∀ x ∈ a :: l2, 0 ≤ bnd p q x) → (∀ p q, Adj (a :: l2) p q → ∀ x ∈ a :: l1, 0 ≤ bnd p q x) → l1 = l2 := by
  -- the one that stops first
  have stop : ∀ (l1 l2 : List Pt) (a b1 b2 M : Pt), Asc (a :: b1 :: l1) → Asc (a :: b2 :: l2) → CvxA (a :: b1 :: l1) → (a :: b1 :: l1).getLast? = some M → (a :: b2 :: l2).getLast? = some M →
      (∀ p q, Adj (a :: b1 :: l1) p q → ∀ x ∈ a :: b2 :: l2, 0 ≤ bnd p q x) → bnd a b1 b2 = 0 → ltP b1 b2 = true → False := by
    intro l1 l2 a b1 b2 M a1 a2 c1 e1 e2 g1 hb hlt
    obtain ⟨h1, h2⟩ := List.pairwise_cons.mp a1
    rw [List.getLast?_cons_cons] at e1 e2
    have hM : b2 = M ∨ ltP b2 M = true := by
      rcases last_ge (List.pairwise_cons.mp a2).2 e2 with ⟨_, z⟩ | ⟨z, _⟩
      · exact .inl z
      · exact .inr z
    cases l1 with
    | nil =>
      have z : b1 = M := by simpa using e1
      rcases hM with q | q
      · rw [z, q] at hlt; exact ltP_irr _ hlt
      · rw [← z] at q; exact ltP_as hlt q
    | cons c l1 =>
      have hc := (List.pairwise_cons.mp h2).1 c List.mem_cons_self
      exact k3 (h1 b1 List.mem_cons_self) hlt hc hb (c1 a b1 c ((((List.nil_sublist l1).cons_cons c).cons_cons b1).cons_cons a)) (g1 b1 c ⟨[a], l1, rfl⟩ b2 (List.mem_cons_of_mem _ List.mem_cons_self))
  intro l1
  induction l1 with
  | nil =>
    intro l2 a M a1 a2 c1 c2 e1 e2 g1 g2
    have eM : a = M := by simpa using e1
    rcases last_ge a2 e2 with ⟨z, _⟩ | ⟨z, _⟩
    · exact z.symm
    · rw [eM] at z; exact absurd z (ltP_irr M)
  | cons b1 l1 ih =>
    intro l2 a M a1 a2 c1 c2 e1 e2 g1 g2
    cases l2 with
    | nil =>
      have eM : a = M := by simpa using e2
      rcases last_ge a1 e1 with ⟨z, _⟩ | ⟨z, _⟩
      · exact absurd z (by simp)
      · rw [eM] at z; exact absurd z (ltP_irr M)
    | cons b2 l2 =>
      have q1 := g1 a b1 ⟨[], l1, rfl⟩ b2 (List.mem_cons_of_mem _ List.mem_cons_self)
      have q2 := g2 a b2 ⟨[], l2, rfl⟩ b1 (List.mem_cons_of_mem _ List.mem_cons_self)
      rw [bnd_swap] at q2
      rcases ltP_tri b1 b2 with z | z | z
      · exact absurd (stop l1 l2 a b1 b2 M a1 a2 c1 e1 e2 g1 (by omega) z) id
      · subst z
        have adj : ∀ {l : List Pt} {p q : Pt}, Adj l p q → Adj (a :: l) p q := fun ⟨s, t, e⟩ => ⟨a :: s, t, by rw [e]; rfl⟩
        refine congrArg _ (ih l2 b1 M (List.pairwise_cons.mp a1).2 (List.pairwise_cons.mp a2).2 (fun p q r hs => c1 p q r (hs.cons a)) (fun p q r hs => c2 p q r (hs.cons a)) (by rw [List.getLast?_cons_cons] at e1; exact e1) (by rw [List.getLast?_cons_cons] at e2; exact e2) (fun p q h x hx => g1 p q (adj h) x (List.mem_cons_of_mem _ hx)) (fun p q h x hx => g2 p q (adj h) x (List.mem_cons_of_mem _ hx)))
      · exact absurd (stop l2 l1 a b2 b1 M a2 a1 c2 e2 e1 g2 (by rw [bnd_swap]; omega) z) id
theorem chn_same {S S' : List Pt} (hS : Asc S) (hS' : Asc S') (sub : ∀ x ∈ S', x ∈ S) (sup : ∀ x ∈ chn S, x ∈ S') : chn S' = chn S := by
  have A := chn_chn hS
  have B := chn_chn hS'
  cases S with
  | nil =>
    cases S' with
    | nil => rfl
    | cons x l => exact absurd (sub x List.mem_cons_self) (by simp)
  | cons m S =>
    -- the chains as they start
    have hh : (chn (m :: S)).head? = some m := by rw [A.head]; rfl
    obtain ⟨l1, e1⟩ : ∃ l1, chn (m :: S) = m :: l1 := by
      cases e : chn (m :: S) with
      | nil => rw [e] at hh; simp at hh
      | cons a l => rw [e] at hh; exact ⟨l, by rw [show a = m by simpa using hh]⟩
    have mS' : m ∈ S' := sup m (by rw [e1]; exact List.mem_cons_self)
    obtain ⟨T, eT⟩ : ∃ T, S' = m :: T := by
      cases S' with
      | nil => exact absurd mS' (by simp)
      | cons a T =>
        rcases List.mem_cons.mp mS' with z | z
        · exact ⟨T, by rw [z]⟩
        · have h1 := (List.pairwise_cons.mp hS').1 m z
          rcases List.mem_cons.mp (sub a List.mem_cons_self) with q | q
          · rw [q] at h1; exact absurd h1 (ltP_irr m)
          · exact absurd ((List.pairwise_cons.mp hS).1 a q) (ltP_as h1)
    subst eT
    have hh' : (chn (m :: T)).head? = some m := by rw [B.head]; rfl
    obtain ⟨l2, e2⟩ : ∃ l2, chn (m :: T) = m :: l2 := by
      cases e : chn (m :: T) with
      | nil => rw [e] at hh'; simp at hh'
      | cons a l => rw [e] at hh'; exact ⟨l, by rw [show a = m by simpa using hh']⟩
    -- the last
    obtain ⟨M, hM⟩ : ∃ M, (m :: S).getLast? = some M := ⟨_, List.getLast?_eq_some_getLast (by simp)⟩
    have hCM : (m :: l1).getLast? = some M := by rw [← e1, A.last, hM]
    have MS' : M ∈ m :: T := sup M (by rw [e1]; exact List.mem_of_getLast? hCM)
    obtain ⟨M', hM'⟩ : ∃ M', (m :: T).getLast? = some M' := ⟨_, List.getLast?_eq_some_getLast (by simp)⟩
    have eM : M' = M := by
      have mem' : M' ∈ m :: S := sub M' (List.mem_of_getLast? hM')
      have up1 : ∀ x ∈ m :: S, x = M ∨ ltP x M = true := fun x hx => by
        rcases last_ge hS hM with ⟨z, e⟩ | ⟨z, f⟩
        · rw [z] at hx; exact .inl ((List.mem_singleton.mp hx).trans e)
        · rcases List.mem_cons.mp hx with q | q
          · rw [q]; exact .inr z
          · exact f x q
      have up2 : ∀ x ∈ m :: T, x = M' ∨ ltP x M' = true := fun x hx => by
        rcases last_ge hS' hM' with ⟨z, e⟩ | ⟨z, f⟩
        · rw [z] at hx; exact .inl ((List.mem_singleton.mp hx).trans e)
        · rcases List.mem_cons.mp hx with q | q
          · rw [q]; exact .inr z
          · exact f x q
      rcases up1 M' mem' with z | z
      · exact z
      · rcases up2 M MS' with q | q
        · exact q.symm
        · exact absurd q (ltP_as z)
    have hCM' : (m :: l2).getLast? = some M := by rw [← e2, B.last, hM', eM]
    have aA := A.asc
    have aB := B.asc
    have cA := A.cvx
    have cB := B.cvx
    have gA : ∀ a b, Adj (chn (m :: S)) a b → ∀ q ∈ m :: S, 0 ≤ bnd a b q := fun a b h q hq => A.edge h hq
    have gB : ∀ a b, Adj (chn (m :: T)) a b → ∀ q ∈ m :: T, 0 ≤ bnd a b q := fun a b h q hq => B.edge h hq
    have sB := B.sub
    rw [e1] at aA cA gA sup ⊢
    rw [e2] at aB cB gB sB ⊢
    exact congrArg _ (chain_uq l2 l1 m M aB aA cB cA hCM' hCM (fun p q h x hx => gB p q h x (sup x hx)) (fun p q h x hx => gA p q h x (sub x (sB x hx))))
end Wf
set_option Elab.async false
set_option linter.all false
set_option maxRecDepth 100000
set_option maxHeartbeats 2000000
/-! plain law: the rim -/
namespace Wf
open PySem PySem.Spec PyProof.Rows L2
def ng (p : Pt) : Pt := (-p.1, -p.2)
theorem ng_ng (p : Pt) : ng (ng p) = p := by unfold ng; simp
theorem popS_map (f : Pt → Pt) (hf : ∀ a b c, lft (f a) (f b) (f c) = lft a b c) (r : Pt) : ∀ st : List Pt, popS (f r) (st.map f) = (popS r st).map f
  | [] => rfl
  | [b] => rfl
  | b :: a :: t => by
    have ih := popS_map f hf r (a :: t)
    rw [List.map_cons, List.map_cons] at *
    rw [popS.eq_def, popS.eq_def r (b :: a :: t)]
    dsimp only
    rw [hf]
    split
    · rfl
    · exact ih
theorem chn_map (f : Pt → Pt) (hf : ∀ a b c, lft (f a) (f b) (f c) = lft a b c) (l : List Pt) : chn (l.map f) = (chn l).map f := by
  have z : ∀ (l st : List Pt), (l.map f).foldl pushS (st.map f) = (l.foldl pushS st).map f := by
    intro l
    induction l with
    | nil => intro st; rfl
    | cons r l ih =>
      intro st
      rw [List.map_cons, List.foldl_cons, List.foldl_cons, ← ih]
      congr 1
      unfold pushS
      rw [popS_map f hf, List.map_cons]
  unfold chn
  have := z l []
  rw [List.map_nil] at this
  rw [this, List.map_reverse]
theorem bnd_ng (a b c : Pt) : bnd (ng a) (ng b) (ng c) = bnd a b c := by unfold bnd ng; grind
theorem lft_ng (a b c : Pt) : lft (ng a) (ng b) (ng c) = lft a b c := by
  have e : (lft (ng a) (ng b) (ng c) = true) = (lft a b c = true) := by rw [propext lft_iff, propext lft_iff, bnd_ng]
  exact Bool.eq_iff_iff.mpr (iff_of_eq e)
theorem ltP_ng {a b : Pt} : ltP (ng a) (ng b) = true ↔ ltP b a = true := by
  rw [ltP_iff, ltP_iff]
  unfold ng
  dsimp only
  omega
theorem adj_map {f : Pt → Pt} {l : List Pt} {a b : Pt} (h : Adj l a b) : Adj (l.map f) (f a) (f b) := by
  obtain ⟨s, t, e⟩ := h
  exact ⟨s.map f, t.map f, by rw [e]; simp⟩
theorem adj_ng {l : List Pt} {a b : Pt} (h : Adj (l.map ng) a b) : Adj l (ng a) (ng b) := by
  have := adj_map (f := ng) h
  rw [List.map_map] at this
  have e : (ng ∘ ng) = id := funext fun p => ng_ng p
  rw [e, List.map_id] at this
  exact this
theorem map_ng_mem {l : List Pt} {q : Pt} : q ∈ l.map ng ↔ ng q ∈ l := by
  rw [List.mem_map]
  constructor
  · rintro ⟨x, hx, e⟩; rw [← e, ng_ng]; exact hx
  · intro h; exact ⟨ng q, h, ng_ng q⟩
theorem ng_inv (l : List Pt) : (l.map ng).map ng = l := by
  rw [List.map_map]
  have e : (ng ∘ ng) = id := funext fun p => ng_ng p
  rw [e, List.map_id]
theorem cvx_ng {l : List Pt} (h : CvxA l) : CvxA (l.map ng) := fun a b c hs => by
  have z := List.Sublist.map ng hs
  rw [ng_inv] at z
  have := h _ _ _ z
  rw [bnd_ng] at this
  exact this
structure HC (S C U : List Pt) (m M : Pt) : Prop where
  lt : ltP m M = true
  cS : ∀ x ∈ C, x ∈ S
  uS : ∀ x ∈ U, x ∈ S
  cE : ∀ a b, Adj C a b → ∀ q ∈ S, 0 ≤ bnd a b q
  uE : ∀ a b, Adj U a b → ∀ q ∈ S, 0 ≤ bnd a b q
  cL : ∀ a b, Adj C a b → ltP a b = true
  uL : ∀ a b, Adj U a b → ltP b a = true
  cV : CvxA C
  uV : CvxA U
  cD : ∀ n : Pt, n.2 ≤ 0 → ∀ s ∈ S, ∃ x ∈ C, dot n s ≤ dot n x
  uD : ∀ n : Pt, 0 ≤ n.2 → ∀ s ∈ S, ∃ x ∈ U, dot n s ≤ dot n x
  ch : C.head? = some m
  cl : C.getLast? = some M
  uh : U.head? = some M
  ul : U.getLast? = some m
theorem dot_ng (n q : Pt) : dot (ng n) (ng q) = dot n q := by unfold dot ng; grind
theorem HC.ng {S C U : List Pt} {m M : Pt} (h : HC S C U m M) : HC (S.map ng) (U.map ng) (C.map ng) (ng M) (ng m) := by
  refine ⟨ltP_ng.mpr h.lt, fun x hx => map_ng_mem.mpr (h.uS _ (map_ng_mem.mp hx)), fun x hx => map_ng_mem.mpr (h.cS _ (map_ng_mem.mp hx)), fun a b e q hq => ?_, fun a b e q hq => ?_, fun a b e => ?_, fun a b e => ?_, cvx_ng h.uV, cvx_ng h.cV, fun n hn s hs => ?_, fun n hn s hs => ?_, ?_, ?_, ?_, ?_⟩
  · have := h.uE _ _ (adj_ng e) _ (map_ng_mem.mp hq)
    rw [bnd_ng] at this; exact this
  · have := h.cE _ _ (adj_ng e) _ (map_ng_mem.mp hq)
    rw [bnd_ng] at this; exact this
  · exact ltP_ng.mp (h.uL _ _ (adj_ng e))
  · exact ltP_ng.mp (h.cL _ _ (adj_ng e))
  · obtain ⟨x, hx, hle⟩ := h.uD (Wf.ng n) (by unfold Wf.ng; dsimp only; omega) _ (map_ng_mem.mp hs)
    rw [dot_ng] at hle
    refine ⟨Wf.ng x, map_ng_mem.mpr (by rw [ng_ng]; exact hx), ?_⟩
    have e := dot_ng n (Wf.ng x)
    rw [ng_ng] at e
    omega
  · obtain ⟨x, hx, hle⟩ := h.cD (Wf.ng n) (by unfold Wf.ng; dsimp only; omega) _ (map_ng_mem.mp hs)
    rw [dot_ng] at hle
    refine ⟨Wf.ng x, map_ng_mem.mpr (by rw [ng_ng]; exact hx), ?_⟩
    have e := dot_ng n (Wf.ng x)
    rw [ng_ng] at e
    omega
  · rw [List.head?_map, h.uh]; rfl
  · rw [List.getLast?_map, h.ul]; rfl
  · rw [List.head?_map, h.ch]; rfl
  · rw [List.getLast?_map, h.cl]; rfl
theorem asc_rng {S : List Pt} (h : Asc S) : Asc (S.reverse.map ng) := by
  rw [Asc, List.pairwise_map, List.pairwise_reverse]
  exact h.imp fun hab => ltP_ng.mpr hab
theorem hc_of {S : List Pt} (h : Asc S) (h2 : 2 ≤ S.length) : ∃ m M, HC S (chn S) (chn S.reverse) m M := by
  obtain ⟨m, T, rfl⟩ : ∃ m T, S = m :: T := by
    cases S with
    | nil => simp at h2
    | cons m T => exact ⟨m, T, rfl⟩
  obtain ⟨M, hM⟩ : ∃ M, (m :: T).getLast? = some M := ⟨_, List.getLast?_eq_some_getLast (by simp)⟩
  have A := chn_chn h
  have B := chn_chn (asc_rng h)
  rw [chn_map ng lft_ng] at B
  have hlt : ltP m M = true := by
    rcases last_ge h hM with ⟨z, _⟩ | ⟨z, _⟩
    · rw [z] at h2; simp at h2
    · exact z
  have memS : ∀ {q : Pt}, q ∈ m :: T → ng q ∈ (m :: T).reverse.map ng := fun hq => List.mem_map.mpr ⟨_, List.mem_reverse.mpr hq, rfl⟩
  refine ⟨m, M, hlt, A.sub, fun x hx => ?_, fun a b e q hq => A.edge e hq, fun a b e q hq => ?_, fun a b e => A.lt e, fun a b e => ?_, A.cvx, ?_, A.dom, fun n hn s hs => ?_, A.head, by rw [A.last, hM], ?_, ?_⟩
  · have := B.sub (ng x) (List.mem_map.mpr ⟨x, hx, rfl⟩)
    have := map_ng_mem.mp this
    rw [ng_ng] at this
    exact List.mem_reverse.mp this
  · have := B.edge (adj_map e) (memS hq)
    rw [bnd_ng] at this
    exact this
  · exact ltP_ng.mp (B.lt (adj_map e))
  · have := cvx_ng B.cvx
    rw [ng_inv] at this
    exact this
  · obtain ⟨x, hx, hle⟩ := B.dom (ng n) (by unfold ng; dsimp only; omega) (ng s) (memS hs)
    rw [dot_ng] at hle
    refine ⟨ng x, map_ng_mem.mp hx, ?_⟩
    have e := dot_ng n (ng x)
    rw [ng_ng] at e
    omega
  · have z := B.head
    rw [List.head?_map, List.head?_map, List.head?_reverse, hM] at z
    cases q : (chn (m :: T).reverse).head? with
    | none => rw [q] at z; cases z
    | some y =>
      rw [q] at z
      have z' : ng y = ng M := Option.some.inj z
      rw [← ng_ng y, z', ng_ng]
  · have z := B.last
    rw [List.getLast?_map, List.getLast?_map, List.getLast?_reverse] at z
    cases q : (chn (m :: T).reverse).getLast? with
    | none => rw [q] at z; cases z
    | some y =>
      rw [q] at z
      have z' : ng y = ng m := Option.some.inj z
      rw [← ng_ng y, z', ng_ng]
/-! three on a line -/
theorem k4 {a M x y z : Pt} (h : ltP a M = true) (hx : bnd a M x = 0) (hy : bnd a M y = 0) (hz : bnd a M z = 0) : bnd x y z = 0 := by
  have u := up_of h
  have e1 : crs (sub2 M a) (sub2 y x) = 0 := by
    have : crs (sub2 M a) (sub2 y x) = bnd a M y - bnd a M x := by unfold bnd crs sub2; grind
    omega
  have e2 : crs (sub2 M a) (sub2 z x) = 0 := by
    have : crs (sub2 M a) (sub2 z x) = bnd a M z - bnd a M x := by unfold bnd crs sub2; grind
    omega
  rw [bnd_crs2]
  generalize sub2 M a = U at *
  generalize sub2 y x = Y at *
  generalize sub2 z x = Z at *
  have i1 : U.1 * crs Y Z = Y.1 * crs U Z - Z.1 * crs U Y := by unfold crs; grind
  have i2 : U.2 * crs Y Z = Y.2 * crs U Z - Z.2 * crs U Y := by unfold crs; grind
  rw [e1, e2, Int.mul_zero, Int.mul_zero] at i1 i2
  unfold Up at u
  rcases Int.mul_eq_zero.mp (show U.1 * crs Y Z = 0 by omega) with q | q
  · rcases Int.mul_eq_zero.mp (show U.2 * crs Y Z = 0 by omega) with q' | q'
    · omega
    · exact q'
  · exact q
theorem cvx3 {C : List Pt} (h : CvxA C) (hl : 3 ≤ C.length) : ∃ x y z, x ∈ C ∧ y ∈ C ∧ z ∈ C ∧ 0 < bnd x y z := by
  match C, hl with
  | x :: y :: z :: t, _ => exact ⟨x, y, z, by simp, by simp, by simp, h x y z ((((List.nil_sublist t).cons_cons z).cons_cons y).cons_cons x)⟩
/-- the turn at the last point -/
theorem HC.jM {S C U : List Pt} {m M : Pt} (h : HC S C U m M) {a b : Pt} (ha : Adj C a M) (hb : Adj U M b) (hl : 3 ≤ C.length ∨ 3 ≤ U.length) : 0 < bnd a M b := by
  have bS : b ∈ S := h.uS b (by obtain ⟨s, t, e⟩ := hb; rw [e]; simp)
  have aM := h.cL a M ha
  have bM := h.uL M b hb
  have h0 := h.cE a M ha b bS
  by_cases hz : 0 < bnd a M b
  · exact hz
  · exfalso
    have e0 : bnd a M b = 0 := by omega
    have col : ∀ q ∈ S, bnd a M q = 0 := fun q hq => by
      have p1 := h.cE a M ha q hq
      have p2 := h.uE M b hb q hq
      have u := up_of aM
      have v := up_of bM
      have f1 : bnd a M q = crs (sub2 M a) (sub2 q M) := bnd_crs a M q
      have f2 : bnd M b q = - crs (sub2 M b) (sub2 q M) := by unfold bnd crs sub2; grind
      have f3 : bnd a M b = - crs (sub2 M a) (sub2 M b) := by unfold bnd crs sub2; grind
      rw [f1] at p1 ⊢
      rw [f2] at p2
      rw [f3] at e0
      generalize sub2 M a = A at *
      generalize sub2 M b = B at *
      generalize sub2 q M = W at *
      have i1 := crs_id A B W
      rw [show crs A B = 0 by omega, Int.mul_zero] at i1
      unfold Up at u v
      by_cases b0 : B.1 = 0
      · have b2 : 0 < B.2 := by omega
        have z : A.1 * B.2 = 0 := by
          have : crs A B = A.1 * B.2 - A.2 * B.1 := rfl
          rw [b0, Int.mul_zero] at this
          omega
        have a1 : A.1 = 0 := by
          rcases Int.mul_eq_zero.mp z with z | z
          · exact z
          · omega
        have a2 : 0 < A.2 := by omega
        have c1 : crs A W = - (A.2 * W.1) := by unfold crs; rw [a1]; omega
        have c2 : crs B W = - (B.2 * W.1) := by unfold crs; rw [b0]; omega
        rw [c1] at p1 ⊢
        rw [c2] at p2
        have w0 : ¬ 0 < W.1 := fun hw => by
          have := Int.mul_pos a2 hw
          omega
        have w1 : ¬ W.1 < 0 := fun hw => by
          have := Int.mul_pos b2 (show 0 < - W.1 by omega)
          rw [Int.mul_neg] at this
          omega
        rw [show W.1 = 0 by omega]
        simp
      · have p3 : 0 ≤ B.1 * crs A W := Int.mul_nonneg (by omega) p1
        have p4 : 0 ≤ A.1 * (- crs B W) := Int.mul_nonneg (by omega) (by omega)
        rw [Int.mul_neg] at p4
        rcases Int.mul_eq_zero.mp (show B.1 * crs A W = 0 by omega) with z | z
        · exact absurd z b0
        · exact z
    rcases hl with hl | hl
    · obtain ⟨x, y, z, hx, hy, hz', hp⟩ := cvx3 h.cV hl
      rw [k4 aM (col x (h.cS x hx)) (col y (h.cS y hy)) (col z (h.cS z hz'))] at hp
      omega
    · obtain ⟨x, y, z, hx, hy, hz', hp⟩ := cvx3 h.uV hl
      rw [k4 aM (col x (h.uS x hx)) (col y (h.uS y hy)) (col z (h.uS z hz'))] at hp
      omega
/-- .. and at the first -/
theorem HC.jm {S C U : List Pt} {m M : Pt} (h : HC S C U m M) {a b : Pt} (ha : Adj U a m) (hb : Adj C m b) (hl : 3 ≤ C.length ∨ 3 ≤ U.length) : 0 < bnd a m b := by
  have z := h.ng.jM (a := Wf.ng a) (b := Wf.ng b) (adj_map ha) (adj_map hb) (by rw [List.length_map, List.length_map]; exact hl.symm)
  rw [bnd_ng] at z
  exact z
/-! ### the rim by its places -/
theorem adj_get {l : List Pt} {j : Nat} {a b : Pt} (h1 : l[j]? = some a) (h2 : l[j + 1]? = some b) : Adj l a b := by
  refine ⟨l.take j, l.drop (j + 2), ?_⟩
  have l1 := (List.getElem?_eq_some_iff.mp h1)
  have l2 := (List.getElem?_eq_some_iff.mp h2)
  obtain ⟨q1, e1⟩ := l1
  obtain ⟨q2, e2⟩ := l2
  have d1 : l.drop j = a :: l.drop (j + 1) := by rw [← e1]; exact List.drop_eq_getElem_cons q1
  have d2 : l.drop (j + 1) = b :: l.drop (j + 2) := by rw [← e2]; exact List.drop_eq_getElem_cons q2
  rw [← d2, ← d1, List.take_append_drop]
theorem sub3_get {l : List Pt} {j : Nat} {a b c : Pt} (h1 : l[j]? = some a) (h2 : l[j + 1]? = some b) (h3 : l[j + 2]? = some c) : [a, b, c].Sublist l := by
  obtain ⟨q1, e1⟩ := List.getElem?_eq_some_iff.mp h1
  obtain ⟨q2, e2⟩ := List.getElem?_eq_some_iff.mp h2
  obtain ⟨q3, e3⟩ := List.getElem?_eq_some_iff.mp h3
  have d1 : l.drop j = a :: l.drop (j + 1) := by rw [← e1]; exact List.drop_eq_getElem_cons q1
  have d2 : l.drop (j + 1) = b :: l.drop (j + 2) := by rw [← e2]; exact List.drop_eq_getElem_cons q2
  have d3 : l.drop (j + 2) = c :: l.drop (j + 3) := by rw [← e3]; exact List.drop_eq_getElem_cons q3
  have : [a, b, c].Sublist (l.drop j) := by
    rw [d1, d2, d3]
    exact (((List.nil_sublist _).cons_cons c).cons_cons b).cons_cons a
  exact this.trans (List.drop_sublist j l)
def nx (R : List Pt) (i : Nat) : Nat := if i + 1 < R.length then i + 1 else 0
structure Ring (S R : List Pt) : Prop where
  sub : ∀ q ∈ R, q ∈ S
  edge : ∀ i, i < R.length → ∀ q ∈ S, 0 ≤ bnd (prv R i) (cur R i) q
  turn : 3 ≤ R.length → ∀ i, i < R.length → 0 < bnd (prv R i) (cur R i) (cur R (nx R i))
  dom : ∀ n : Pt, ∀ s ∈ S, ∃ c ∈ R, dot n s ≤ dot n c
theorem cur_of {R : List Pt} {i : Nat} {a : Pt} (h : R[i]? = some a) : cur R i = a := by
  unfold cur
  rw [List.getD_eq_getElem?_getD, h]; rfl
theorem HC.ring {S C U : List Pt} {m M : Pt} (h : HC S C U m M) : Ring S (C.dropLast ++ U.dropLast) := by
  have mM : m ≠ M := fun e => by
    have := h.lt
    rw [e] at this
    exact ltP_irr _ this
  -- both with their ends
  obtain ⟨p, hp⟩ : ∃ p, C.length = p + 2 := by
    have h1 := h.ch
    have h2 := h.cl
    match C, h1, h2 with
    | [], h1, _ => cases h1
    | [x], h1, h2 => cases h1; cases h2; exact absurd rfl mM
    | x :: y :: t, _, _ => exact ⟨t.length, rfl⟩
  obtain ⟨q, hq⟩ : ∃ q, U.length = q + 2 := by
    have h1 := h.uh
    have h2 := h.ul
    match U, h1, h2 with
    | [], h1, _ => cases h1
    | [x], h1, h2 => cases h1; cases h2; exact absurd rfl mM
    | x :: y :: t, _, _ => exact ⟨t.length, rfl⟩
  have c0 : C[0]? = some m := by rw [← List.head?_eq_getElem?]; exact h.ch
  have u0 : U[0]? = some M := by rw [← List.head?_eq_getElem?]; exact h.uh
  have cl : C[p + 1]? = some M := by have := h.cl; rw [List.getLast?_eq_getElem?, hp] at this; exact this
  have ul : U[q + 1]? = some m := by have := h.ul; rw [List.getLast?_eq_getElem?, hq] at this; exact this
  have cg : ∀ j, j ≤ p + 1 → ∃ a, C[j]? = some a := fun j hj => ⟨_, List.getElem?_eq_getElem (by omega)⟩
  have ug : ∀ j, j ≤ q + 1 → ∃ a, U[j]? = some a := fun j hj => ⟨_, List.getElem?_eq_getElem (by omega)⟩
  have lC : C.dropLast.length = p + 1 := by rw [List.length_dropLast, hp]; rfl
  have lU : U.dropLast.length = q + 1 := by rw [List.length_dropLast, hq]; rfl
  have lR : (C.dropLast ++ U.dropLast).length = p + q + 2 := by rw [List.length_append, lC, lU]; omega
  have gC : ∀ j, j < p + 1 → (C.dropLast ++ U.dropLast)[j]? = C[j]? := fun j hj => by
    rw [List.getElem?_append_left (by omega), List.getElem?_dropLast, if_pos (by omega)]
  have gU : ∀ j, j < q + 1 → (C.dropLast ++ U.dropLast)[p + 1 + j]? = U[j]? := fun j hj => by
    rw [List.getElem?_append_right (by omega), lC, show p + 1 + j - (p + 1) = j by omega, List.getElem?_dropLast, if_pos (by omega)]
  -- the points by their places
  have pC : ∀ j a, j ≤ p + 1 → C[j]? = some a → cur (C.dropLast ++ U.dropLast) j = a := fun j a hj e => by
    by_cases hj' : j = p + 1
    · subst hj'
      rw [cl] at e
      cases e
      exact cur_of (by rw [show p + 1 = p + 1 + 0 by rfl, gU 0 (by omega)]; exact u0)
    · exact cur_of (by rw [gC j (by omega)]; exact e)
  have pU : ∀ j a, j < q + 1 → U[j]? = some a → cur (C.dropLast ++ U.dropLast) (p + 1 + j) = a := fun j a hj e => cur_of (by rw [gU j hj]; exact e)
  have pr : ∀ i, i < p + q + 2 → prv (C.dropLast ++ U.dropLast) i = cur (C.dropLast ++ U.dropLast) (if i = 0 then p + q + 1 else i - 1) := fun i hi => by
    unfold prv cur
    rw [lR]
    rfl
  -- an edge, by its place
  have ed : ∀ i, i < p + q + 2 → Adj C (prv (C.dropLast ++ U.dropLast) i) (cur (C.dropLast ++ U.dropLast) i) ∨ Adj U (prv (C.dropLast ++ U.dropLast) i) (cur (C.dropLast ++ U.dropLast) i) := fun i hi => by
    rw [pr i hi]
    by_cases i0 : i = 0
    · subst i0
      rw [if_pos rfl]
      refine .inr ?_
      obtain ⟨a, ea⟩ := ug q (by omega)
      rw [pC 0 m (by omega) c0, show p + q + 1 = p + 1 + q by omega, pU q a (by omega) ea]
      exact adj_get ea ul
    · rw [if_neg i0]
      by_cases ip : i ≤ p + 1
      · refine .inl ?_
        obtain ⟨a, ea⟩ := cg (i - 1) (by omega)
        obtain ⟨b, eb⟩ := cg i ip
        rw [pC (i - 1) a (by omega) ea, pC i b ip eb]
        exact adj_get ea (by rw [show i - 1 + 1 = i by omega]; exact eb)
      · refine .inr ?_
        obtain ⟨a, ea⟩ := ug (i - 1 - (p + 1)) (by omega)
        obtain ⟨b, eb⟩ := ug (i - (p + 1)) (by omega)
        have e1 := pU _ a (by omega) ea
        have e2 := pU _ b (by omega) eb
        rw [show p + 1 + (i - 1 - (p + 1)) = i - 1 by omega] at e1
        rw [show p + 1 + (i - (p + 1)) = i by omega] at e2
        rw [e1, e2]
        exact adj_get ea (by rw [show i - 1 - (p + 1) + 1 = i - (p + 1) by omega]; exact eb)
  refine ⟨fun x hx => ?_, fun i hi x hx => ?_, fun h3 i hi => ?_, fun n s hs => ?_⟩
  · rcases List.mem_append.mp hx with z | z
    · exact h.cS x (List.dropLast_subset _ z)
    · exact h.uS x (List.dropLast_subset _ z)
  · rw [lR] at hi
    rcases ed i hi with z | z
    · exact h.cE _ _ z x hx
    · exact h.uE _ _ z x hx
  · rw [lR] at hi h3
    have big : 3 ≤ C.length ∨ 3 ≤ U.length := by omega
    rw [pr i hi]
    unfold nx
    rw [lR]
    by_cases i0 : i = 0
    · subst i0
      rw [if_pos rfl, if_pos (by omega)]
      obtain ⟨a, ea⟩ := ug q (by omega)
      obtain ⟨b, eb⟩ := cg 1 (by omega)
      rw [pC 0 m (by omega) c0, show p + q + 1 = p + 1 + q by omega, pU q a (by omega) ea, pC (0 + 1) b (by omega) eb]
      exact h.jm (adj_get ea ul) (adj_get c0 eb) big
    · rw [if_neg i0]
      by_cases ip : i ≤ p
      · obtain ⟨a, ea⟩ := cg (i - 1) (by omega)
        obtain ⟨b, eb⟩ := cg i (by omega)
        obtain ⟨c, ec⟩ := cg (i + 1) (by omega)
        rw [if_pos (by omega), pC (i - 1) a (by omega) ea, pC i b (by omega) eb, pC (i + 1) c (by omega) ec]
        exact h.cV a b c (sub3_get ea (by rw [show i - 1 + 1 = i by omega]; exact eb) (by rw [show i - 1 + 2 = i + 1 by omega]; exact ec))
      · have cn : ∀ j b, j ≤ q + 1 → 0 < j → U[j]? = some b → cur (C.dropLast ++ U.dropLast) (if p + 1 + j < p + q + 2 then p + 1 + j else 0) = b := fun j b hj j0 e => by
          by_cases hq' : j = q + 1
          · subst hq'
            rw [ul] at e
            cases e
            rw [if_neg (by omega)]
            exact pC 0 m (by omega) c0
          · rw [if_pos (by omega)]
            exact pU j b (by omega) e
        by_cases ie : i = p + 1
        · subst ie
          obtain ⟨a, ea⟩ := cg p (by omega)
          obtain ⟨b, eb⟩ := ug 1 (by omega)
          rw [show p + 1 - 1 = p by omega, pC p a (by omega) ea, pC (p + 1) M (by omega) cl, cn 1 b (by omega) (by omega) eb]
          exact h.jM (adj_get ea cl) (adj_get u0 eb) big
        · obtain ⟨a, ea⟩ := ug (i - 1 - (p + 1)) (by omega)
          obtain ⟨b, eb⟩ := ug (i - (p + 1)) (by omega)
          obtain ⟨c, ec⟩ := ug (i - (p + 1) + 1) (by omega)
          have e1 := pU _ a (by omega) ea
          have e2 := pU _ b (by omega) eb
          have e3 := cn _ c (by omega) (by omega) ec
          rw [show p + 1 + (i - 1 - (p + 1)) = i - 1 by omega] at e1
          rw [show p + 1 + (i - (p + 1)) = i by omega] at e2
          rw [show p + 1 + (i - (p + 1) + 1) = i + 1 by omega] at e3
          rw [e1, e2, e3]
          exact h.uV a b c (sub3_get ea (by rw [show i - 1 - (p + 1) + 1 = i - (p + 1) by omega]; exact eb) (by rw [show i - 1 - (p + 1) + 2 = i - (p + 1) + 1 by omega]; exact ec))
  · have back : ∀ x, x ∈ C ∨ x ∈ U → x ∈ C.dropLast ++ U.dropLast := fun x hx => by
      have mem : ∀ j, j < p + q + 2 → cur (C.dropLast ++ U.dropLast) j ∈ C.dropLast ++ U.dropLast := fun j hj => by
        unfold cur
        rw [List.getD_eq_getElem?_getD, List.getElem?_eq_getElem (by omega)]
        exact List.getElem_mem _
      rcases hx with hx | hx
      · obtain ⟨j, hj, e⟩ := List.mem_iff_getElem.mp hx
        have := pC j x (by omega) (by rw [List.getElem?_eq_getElem hj, e])
        rw [← this]
        exact mem j (by omega)
      · obtain ⟨j, hj, e⟩ := List.mem_iff_getElem.mp hx
        by_cases jq : j = q + 1
        · subst jq
          have e2 : U[q + 1]? = some x := by rw [List.getElem?_eq_getElem hj, e]
          rw [ul] at e2
          cases e2
          have := pC 0 m (by omega) c0
          rw [← this]
          exact mem 0 (by omega)
        · have := pU j x (by omega) (by rw [List.getElem?_eq_getElem hj, e])
          rw [← this]
          exact mem _ (by omega)
    by_cases hn : n.2 ≤ 0
    · obtain ⟨x, hx, hle⟩ := h.cD n hn s hs
      exact ⟨x, back x (.inl hx), hle⟩
    · obtain ⟨x, hx, hle⟩ := h.uD n (by omega) s hs
      exact ⟨x, back x (.inr hx), hle⟩
end Wf
set_option Elab.async false
set_option linter.all false
set_option maxRecDepth 100000
set_option maxHeartbeats 2000000
/-! plain law: the law's rim; the rim of the rim -/
namespace Wf
open PySem PySem.Spec PyProof.Rows L2
theorem HC.back {S C U : List Pt} {m M : Pt} (h : HC S C U m M) : ∀ x, x ∈ C ∨ x ∈ U → x ∈ C.dropLast ++ U.dropLast := by
  have mM : m ≠ M := fun e => by
    have := h.lt
    rw [e] at this
    exact ltP_irr _ this
  have hm : m ∈ C.dropLast := by
    have h1 := h.ch
    have h2 := h.cl
    match C, h1, h2 with
    | [], h1, _ => cases h1
    | [x], h1, h2 => cases h1; cases h2; exact absurd rfl mM
    | x :: y :: t, h1, _ => cases h1; exact List.mem_cons_self
  have hM : M ∈ U.dropLast := by
    have h1 := h.uh
    have h2 := h.ul
    match U, h1, h2 with
    | [], h1, _ => cases h1
    | [x], h1, h2 => cases h1; cases h2; exact absurd rfl mM
    | x :: y :: t, h1, _ => cases h1; exact List.mem_cons_self
  have sp : ∀ (l : List Pt) (z x : Pt), l.getLast? = some z → x ∈ l → x ∈ l.dropLast ∨ x = z := fun l z x hl hx => by
    obtain ⟨ne, e⟩ := List.getLast?_eq_some_iff.mp hl |>.elim fun ys e => (⟨ys, e⟩ : ∃ ys, l = ys ++ [z])
    rw [e] at hx ⊢
    rw [List.dropLast_concat]
    rcases List.mem_append.mp hx with q | q
    · exact .inl q
    · exact .inr (List.mem_singleton.mp q)
  intro x hx
  rcases hx with hx | hx
  · rcases sp C M x h.cl hx with q | q
    · exact List.mem_append_left _ q
    · rw [q]; exact List.mem_append_right _ hM
  · rcases sp U m x h.ul hx with q | q
    · exact List.mem_append_right _ q
    · rw [q]; exact List.mem_append_left _ hm
theorem lrim_eq {dots : List Pt} (h : 3 ≤ (lrim dots).length) : 3 ≤ (ssort dots).length ∧ lrim dots = (chn (ssort dots)).dropLast ++ (chn (ssort dots).reverse).dropLast := by
  unfold lrim at h ⊢
  by_cases hl : (ssort dots).length < 3
  · rw [if_pos hl] at h
    omega
  · rw [if_neg hl]
    exact ⟨by omega, rfl⟩
theorem rim_ring {dots : List Pt} (h : 3 ≤ (lrim dots).length) : Ring dots (lrim dots) := by
  obtain ⟨h1, e⟩ := lrim_eq h
  obtain ⟨m, M, z⟩ := hc_of (asc_ssort dots) (by omega)
  rw [e]
  have r := z.ring
  exact ⟨fun q hq => (mem_ssort q dots).mp (r.sub q hq), fun i hi q hq => r.edge i hi q ((mem_ssort q dots).mpr hq), r.turn, fun n s hs => r.dom n s ((mem_ssort s dots).mpr hs)⟩
theorem rim_same {dots : List Pt} (h : 3 ≤ (lrim dots).length) : hulR (ssort (lrim dots)) = lrim dots := by
  obtain ⟨h1, e⟩ := lrim_eq h
  have aS := asc_ssort dots
  obtain ⟨m, M, z⟩ := hc_of aS (by omega)
  have r := z.ring
  have bk := z.back
  rw [← e] at r bk
  have aS' := asc_ssort (lrim dots)
  have sub : ∀ x ∈ ssort (lrim dots), x ∈ ssort dots := fun x hx => r.sub x ((mem_ssort x _).mp hx)
  have e1 : chn (ssort (lrim dots)) = chn (ssort dots) := chn_same aS aS' sub fun x hx => (mem_ssort x _).mpr (bk x (.inl hx))
  have e2 : (chn (ssort (lrim dots)).reverse).map ng = (chn (ssort dots).reverse).map ng := by
    rw [← chn_map ng lft_ng, ← chn_map ng lft_ng]
    refine chn_same (asc_rng aS) (asc_rng aS') (fun x hx => ?_) fun x hx => ?_
    · exact map_ng_mem.mpr (List.mem_reverse.mpr (sub _ (List.mem_reverse.mp (map_ng_mem.mp hx))))
    · rw [chn_map ng lft_ng] at hx
      exact map_ng_mem.mpr (List.mem_reverse.mpr ((mem_ssort _ _).mpr (bk _ (.inr (map_ng_mem.mp hx)))))
  have e3 : chn (ssort (lrim dots)).reverse = chn (ssort dots).reverse := by
    have := congrArg (List.map ng) e2
    rw [ng_inv, ng_inv] at this
    exact this
  have n1 : (ssort (lrim dots)).length ≠ 1 := fun hl => by
    obtain ⟨x, hx⟩ := List.length_eq_one_iff.mp hl
    have hm : m ∈ ssort (lrim dots) := (mem_ssort _ _).mpr (bk m (.inl (List.mem_of_mem_head? (by rw [z.ch]; exact rfl))))
    have hM : M ∈ ssort (lrim dots) := (mem_ssort _ _).mpr (bk M (.inl (List.mem_of_getLast? z.cl)))
    rw [hx, List.mem_singleton] at hm hM
    have := z.lt
    rw [hm, hM] at this
    exact ltP_irr _ this
  unfold hulR
  rw [if_neg n1, e1, e3, ← e]
theorem rim3 {dots : List Pt} (h0 : ((0, 0) : Pt) ∈ dots) (h1 : ((1, 2) : Pt) ∈ dots) (h2 : ((2, -1) : Pt) ∈ dots) : 3 ≤ (lrim dots).length := by
  have s0 := (mem_ssort _ _).mpr h0
  have s1 := (mem_ssort _ _).mpr h1
  have s2 := (mem_ssort _ _).mpr h2
  have l3 : 3 ≤ (ssort dots).length := by
    match hS : ssort dots, s0, s1, s2 with
    | [], s0, _, _ => exact absurd s0 (by simp)
    | [x], s0, s1, _ => simp at s0 s1; rw [← s0] at s1; simp at s1
    | [x, y], s0, s1, s2 =>
      simp only [List.mem_cons, List.not_mem_nil, or_false] at s0 s1 s2
      rcases s0 with s0 | s0 <;> rcases s1 with s1 | s1 <;> rcases s2 with s2 | s2 <;>
        first
          | (rw [← s0] at s1; simp at s1; done)
          | (rw [← s0] at s2; simp at s2; done)
          | (rw [← s1] at s2; simp at s2; done)
    | x :: y :: z :: t, _, _, _ => simp
  obtain ⟨m, M, z⟩ := hc_of (asc_ssort dots) (by omega)
  unfold lrim
  rw [if_neg (by omega)]
  have mM : m ≠ M := fun e => by
    have := z.lt
    rw [e] at this
    exact ltP_irr _ this
  have c2 : 2 ≤ (chn (ssort dots)).length := by
    have h1 := z.ch
    have h2 := z.cl
    match chn (ssort dots), h1, h2 with
    | [], h1, _ => cases h1
    | [x], h1, h2 => cases h1; cases h2; exact absurd rfl mM
    | x :: y :: t, h1, _ => simp
  have u2 : 2 ≤ (chn (ssort dots).reverse).length := by
    have h1 := z.uh
    have h2 := z.ul
    match chn (ssort dots).reverse, h1, h2 with
    | [], h1, _ => cases h1
    | [x], h1, h2 => cases h1; cases h2; exact absurd rfl mM
    | x :: y :: t, h1, _ => simp
  rw [List.length_append, List.length_dropLast, List.length_dropLast]
  by_cases hl : 3 ≤ (chn (ssort dots)).length - 1 + ((chn (ssort dots).reverse).length - 1)
  · exact hl
  · exfalso
    have ec : chn (ssort dots) = [m, M] := by
      have h1 := z.ch
      have h2 := z.cl
      match hc : chn (ssort dots), h1, h2 with
      | [], h1, _ => cases h1
      | [x], h1, h2 => cases h1; cases h2; exact absurd rfl mM
      | [x, y], h1, h2 => cases h1; cases h2; rfl
      | x :: y :: w :: t, h1, _ => rw [hc] at hl; simp at hl; omega
    have eu : chn (ssort dots).reverse = [M, m] := by
      have h1 := z.uh
      have h2 := z.ul
      match hc : chn (ssort dots).reverse, h1, h2 with
      | [], h1, _ => cases h1
      | [x], h1, h2 => cases h1; cases h2; exact absurd rfl mM
      | [x, y], h1, h2 => cases h1; cases h2; rfl
      | x :: y :: w :: t, h1, _ => rw [hc] at hl; simp at hl; omega
    have col : ∀ q ∈ ssort dots, bnd m M q = 0 := fun q hq => by
      have p1 := z.cE m M ⟨[], [], ec⟩ q hq
      have p2 := z.uE M m ⟨[], [], eu⟩ q hq
      have e : bnd M m q = - bnd m M q := by unfold bnd; grind
      omega
    have := k4 z.lt (col _ s0) (col _ s1) (col _ s2)
    exact absurd this (by decide)
/-! ### on another scale -/
def sc (m : Int) (p : Pt) : Pt := (m * p.1, m * p.2)
theorem lt_sc {m a b : Int} (hm : 0 < m) : m * a < m * b ↔ a < b := by
  constructor
  · intro h
    by_cases z : a < b
    · exact z
    · have : 0 ≤ m * (a - b) := Int.mul_nonneg (by omega) (by omega)
      rw [Int.mul_sub] at this
      omega
  · intro h
    have : 0 < m * (b - a) := Int.mul_pos hm (by omega)
    rw [Int.mul_sub] at this
    omega
theorem le_sc {m a b : Int} (hm : 0 < m) : m * a ≤ m * b ↔ a ≤ b := by
  have := lt_sc (a := b) (b := a) hm
  omega
theorem eq_sc {m a b : Int} (hm : 0 < m) : m * a = m * b ↔ a = b := by
  have := lt_sc (a := b) (b := a) hm
  have := lt_sc (a := a) (b := b) hm
  omega
theorem sc_inj {m : Int} (hm : 0 < m) {p q : Pt} (h : sc m p = sc m q) : p = q := by
  unfold sc at h
  have h1 := congrArg Prod.fst h
  have h2 := congrArg Prod.snd h
  exact pt_ext ((eq_sc hm).mp h1) ((eq_sc hm).mp h2)
theorem ltP_sc {m : Int} (hm : 0 < m) {p q : Pt} : ltP (sc m p) (sc m q) = true ↔ ltP p q = true := by
  rw [ltP_iff, ltP_iff]
  unfold sc
  dsimp only
  rw [lt_sc hm, lt_sc hm, eq_sc hm]
theorem lft_sc {m : Int} (hm : 0 < m) (a b c : Pt) : lft (sc m a) (sc m b) (sc m c) = lft a b c := by
  have e : bnd (sc m a) (sc m b) (sc m c) = m * (m * bnd a b c) := by unfold bnd sc; grind
  refine Bool.eq_iff_iff.mpr ?_
  rw [lft_iff, lft_iff, e]
  have := lt_sc (a := 0) (b := m * bnd a b c) hm
  have := lt_sc (a := 0) (b := bnd a b c) hm
  rw [Int.mul_zero] at *
  omega
theorem hulR_sc {T : List Pt} {m : Int} (hm : 0 < m) (h : hulR (ssort (T.map (sc m))) = T.map (sc m)) : hulR (ssort T) = T := by
  have inj : ∀ {l1 l2 : List Pt}, l1.map (sc m) = l2.map (sc m) → l1 = l2 := by
    intro l1
    induction l1 with
    | nil => intro l2 h; cases l2 with
      | nil => rfl
      | cons _ _ => simp at h
    | cons a l1 ih => intro l2 h; cases l2 with
      | nil => simp at h
      | cons b l2 =>
        rw [List.map_cons, List.map_cons, List.cons.injEq] at h
        rw [sc_inj hm h.1, ih h.2]
  have es : ssort (T.map (sc m)) = (ssort T).map (sc m) := by
    refine asc_uniq (asc_ssort _) ?_ fun x => ?_
    · rw [Asc, List.pairwise_map]
      exact (asc_ssort T).imp fun h => (ltP_sc hm).mpr h
    · rw [mem_ssort, List.mem_map, List.mem_map]
      constructor
      · rintro ⟨y, hy, e⟩; exact ⟨y, (mem_ssort y T).mpr hy, e⟩
      · rintro ⟨y, hy, e⟩; exact ⟨y, (mem_ssort y T).mp hy, e⟩
  have eh : hulR ((ssort T).map (sc m)) = (hulR (ssort T)).map (sc m) := by
    unfold hulR
    rw [List.length_map, ← List.map_reverse, chn_map _ (lft_sc hm), chn_map _ (lft_sc hm)]
    split
    · rfl
    · rw [List.map_append, List.map_dropLast, List.map_dropLast]
  rw [es, eh] at h
  exact inj h
end Wf
set_option Elab.async false
set_option linter.all false
set_option maxRecDepth 100000
set_option maxHeartbeats 2000000
/-! plain law: points on the scale, the figure -/
namespace Wf
open PySem PySem.Spec PyProof.Rows L2
/-! ### lowest terms -/
theorem cd_dvd3 (a b c : Int) : cdiv [a, b, c] ∣ a ∧ cdiv [a, b, c] ∣ b ∧ cdiv [a, b, c] ∣ c := by
  rw [cdiv3]
  refine ⟨Int.natAbs_dvd_natAbs.mp ?_, Int.natAbs_dvd_natAbs.mp ?_, Int.natAbs_dvd_natAbs.mp ?_⟩
  · rw [Int.natAbs_natCast]; exact Nat.dvd_trans (Nat.gcd_dvd_left _ _) (Nat.gcd_dvd_left _ _)
  · rw [Int.natAbs_natCast]; exact Nat.dvd_trans (Nat.gcd_dvd_left _ _) (Nat.gcd_dvd_right _ _)
  · rw [Int.natAbs_natCast]; exact Nat.gcd_dvd_right _ _
theorem cd_dvd2 (a b : Int) : cdiv [a, b] ∣ a ∧ cdiv [a, b] ∣ b := by
  rw [cdiv2]
  refine ⟨Int.natAbs_dvd_natAbs.mp ?_, Int.natAbs_dvd_natAbs.mp ?_⟩
  · rw [Int.natAbs_natCast]; exact Nat.gcd_dvd_left _ _
  · rw [Int.natAbs_natCast]; exact Nat.gcd_dvd_right _ _
theorem cd_pos3 {a b c : Int} (h : ¬ (a = 0 ∧ b = 0 ∧ c = 0)) : 0 < cdiv [a, b, c] := by
  rw [cdiv3]
  rcases Nat.eq_zero_or_pos (Nat.gcd (Nat.gcd a.natAbs b.natAbs) c.natAbs) with e | e
  · rw [Nat.gcd_eq_zero_iff, Nat.gcd_eq_zero_iff] at e
    exact absurd ⟨by omega, by omega, by omega⟩ h
  · omega
theorem cd_pos2 {a b : Int} (h : ¬ (a = 0 ∧ b = 0)) : 0 < cdiv [a, b] := by
  rw [cdiv2]
  rcases Nat.eq_zero_or_pos (Nat.gcd a.natAbs b.natAbs) with e | e
  · rw [Nat.gcd_eq_zero_iff] at e
    exact absurd ⟨by omega, by omega⟩ h
  · omega
theorem red3_eq {a b c : Int} : cdiv [a, b, c] * (red3 a b c).1 = a ∧ cdiv [a, b, c] * (red3 a b c).2.1 = b ∧ cdiv [a, b, c] * (red3 a b c).2.2 = c := by
  obtain ⟨h1, h2, h3⟩ := cd_dvd3 a b c
  exact ⟨Int.mul_ediv_cancel' h1, Int.mul_ediv_cancel' h2, Int.mul_ediv_cancel' h3⟩
theorem red_eq {a b : Int} : cdiv [a, b] * (red a b).1 = a ∧ cdiv [a, b] * (red a b).2 = b := by
  obtain ⟨h1, h2⟩ := cd_dvd2 a b
  exact ⟨Int.mul_ediv_cancel' h1, Int.mul_ediv_cancel' h2⟩
theorem cdiv3_mul (m a b c : Int) : cdiv [m * a, m * b, m * c] = (m.natAbs : Int) * cdiv [a, b, c] := by
  rw [cdiv3, cdiv3, Int.natAbs_mul, Int.natAbs_mul, Int.natAbs_mul, Nat.gcd_mul_left, Nat.gcd_mul_left, Int.natCast_mul]
theorem cdiv2_mul (m a b : Int) : cdiv [m * a, m * b] = (m.natAbs : Int) * cdiv [a, b] := by
  rw [cdiv2, cdiv2, Int.natAbs_mul, Int.natAbs_mul, Nat.gcd_mul_left, Int.natCast_mul]
theorem cd_one3 {a b c : Int} (h : ¬ (a = 0 ∧ b = 0 ∧ c = 0)) : cdiv [(red3 a b c).1, (red3 a b c).2.1, (red3 a b c).2.2] = 1 := by
  have g := cd_pos3 h
  obtain ⟨e1, e2, e3⟩ := red3_eq (a := a) (b := b) (c := c)
  have z := cdiv3_mul (cdiv [a, b, c]) (red3 a b c).1 (red3 a b c).2.1 (red3 a b c).2.2
  rw [e1, e2, e3, show ((cdiv [a, b, c]).natAbs : Int) = cdiv [a, b, c] by omega] at z
  exact (eq_sc g).mp (by rw [← z, Int.mul_one])
theorem cd_red2 {a b : Int} (h : ¬ (a = 0 ∧ b = 0)) : cdiv [(red a b).1, (red a b).2] = 1 := by
  have g := cd_pos2 h
  obtain ⟨e1, e2⟩ := red_eq (a := a) (b := b)
  have z := cdiv2_mul (cdiv [a, b]) (red a b).1 (red a b).2
  rw [e1, e2, show ((cdiv [a, b]).natAbs : Int) = cdiv [a, b] by omega] at z
  exact (eq_sc g).mp (by rw [← z, Int.mul_one])
theorem cd_red3 {a b c : Int} (h : ¬ (a = 0 ∧ b = 0)) : cdiv [(red3 a b c).1, (red3 a b c).2.1, (red3 a b c).2.2] = 1 := cd_one3 fun z => h ⟨z.1, z.2.1⟩
theorem cd_red3w {a b c : Int} (h : 0 < c) : cdiv [(red3 a b c).1, (red3 a b c).2.1, (red3 a b c).2.2] = 1 := cd_one3 fun z => by omega
theorem red3_sc {m : Int} (hm : 0 < m) {a b c : Int} (h : 0 < c) : red3 (m * a) (m * b) (m * c) = red3 a b c := by
  have g := (cd3_pos (a := a) (b := b) h).1
  have e : cdiv [m * a, m * b, m * c] = m * cdiv [a, b, c] := by rw [cdiv3_mul, show (m.natAbs : Int) = m by omega]
  unfold red3
  rw [e, Int.mul_ediv_mul_of_pos _ _ hm, Int.mul_ediv_mul_of_pos _ _ hm, Int.mul_ediv_mul_of_pos _ _ hm]
/-! ### a corner on the scale -/
abbrev Pk (k : Int) (r : Pt) : P3 := red3 r.1 r.2 k
structure PkOk (k : Int) (r : Pt) (g : Int) : Prop where
  gp : 0 < g
  x : g * (Pk k r).1 = r.1
  y : g * (Pk k r).2.1 = r.2
  w : g * (Pk k r).2.2 = k
  wp : 0 < (Pk k r).2.2
  wk : (Pk k r).2.2 ≤ k
theorem pk_ok {k : Int} (hk : 0 < k) (r : Pt) : ∃ g, PkOk k r g := by
  have g := cd3_pos (a := r.1) (b := r.2) hk
  obtain ⟨e1, e2, e3⟩ := red3_eq (a := r.1) (b := r.2) (c := k)
  refine ⟨_, g.1, e1, e2, e3, ?_, ?_⟩
  · exact pos_right g.1 (by rw [e3]; exact hk)
  · exact Int.ediv_le_self _ (Int.le_of_lt hk)
theorem said_get {R : List Pt} {k : Int} {i : Nat} (hi : i < R.length) : (said R k)[i]? = some (Pk k (cur R i)) := by
  unfold said cur
  rw [List.getElem?_map, List.getD_eq_getElem?_getD, List.getElem?_eq_getElem hi]; rfl
theorem said_nxt {R : List Pt} {k : Int} {i : Nat} (hi : i < R.length) : nxt (said R k) i = Pk k (cur R (nx R i)) := by
  have hl : (said R k).length = R.length := List.length_map _
  have z : ∀ j, j < R.length → (said R k).getD j (0, 0, 0) = Pk k (cur R j) := fun j hj => by
    rw [List.getD_eq_getElem?_getD, said_get hj]; rfl
  unfold nxt nx
  rw [hl]
  split
  · exact z _ (by assumption)
  · exact z 0 (by omega)
/-- the side over an edge -/
def nrmE (r r' : Pt) : Pt := (r'.2 - r.2, r.1 - r'.1)
structure SideIs (k : Int) (r r' : Pt) (s : P3) (A : Int) : Prop where
  a : 0 < A
  x : A * s.1 = k * (k * (nrmE r r').1)
  y : A * s.2.1 = k * (k * (nrmE r r').2)
  h : A * s.2.2 = k * dot (nrmE r r') r
theorem side_is {k : Int} (hk : 0 < k) {r r' : Pt} (hn : ¬ ((nrmE r r').1 = 0 ∧ (nrmE r r').2 = 0)) : 0 < cdiv [(stp (Pk k r) (Pk k r')).2 * (Pk k r).2.2, -(stp (Pk k r) (Pk k r')).1 * (Pk k r).2.2, (stp (Pk k r) (Pk k r')).2 * (Pk k r).1 + -(stp (Pk k r) (Pk k r')).1 * (Pk k r).2.1] ∧ ∃ A, SideIs k r r' (sdL (Pk k r) (Pk k r')) A := by
  obtain ⟨g, G⟩ := pk_ok hk r
  obtain ⟨g', G'⟩ := pk_ok hk r'
  have x1 := G.x
  have y1 := G.y
  have w1 := G.w
  have x2 := G'.x
  have y2 := G'.y
  have w2 := G'.w
  have g0 := G.gp
  have g0' := G'.gp
  unfold sdL sdAt stp
  dsimp only
  generalize (Pk k r).1 = px at *
  generalize (Pk k r).2.1 = py at *
  generalize (Pk k r).2.2 = pw at *
  generalize (Pk k r').1 = qx at *
  generalize (Pk k r').2.1 = qy at *
  generalize (Pk k r').2.2 = qw at *
  have G0 : 0 < g * g' * g := Int.mul_pos (Int.mul_pos g0 g0') g0
  have r1 : g * g' * g * ((qy * pw - py * qw) * pw) = k * (k * (nrmE r r').1) := by
    have e : g * g' * g * ((qy * pw - py * qw) * pw) = (g * pw) * ((g' * qy) * (g * pw) - (g * py) * (g' * qw)) := by grind
    rw [e, y1, w1, y2, w2]
    unfold nrmE
    grind
  have r2 : g * g' * g * (-(qx * pw - px * qw) * pw) = k * (k * (nrmE r r').2) := by
    have e : g * g' * g * (-(qx * pw - px * qw) * pw) = (g * pw) * ((g * px) * (g' * qw) - (g' * qx) * (g * pw)) := by grind
    rw [e, x1, w1, x2, w2]
    unfold nrmE
    grind
  have r3 : g * g' * g * ((qy * pw - py * qw) * px + -(qx * pw - px * qw) * py) = k * dot (nrmE r r') r := by
    have e : g * g' * g * ((qy * pw - py * qw) * px + -(qx * pw - px * qw) * py) = ((g' * qy) * (g * pw) - (g * py) * (g' * qw)) * (g * px) - ((g' * qx) * (g * pw) - (g * px) * (g' * qw)) * (g * py) := by grind
    rw [e, x1, y1, w1, x2, y2, w2]
    unfold nrmE dot
    grind
  generalize (qy * pw - py * qw) * pw = a at *
  generalize -(qx * pw - px * qw) * pw = b at *
  generalize (qy * pw - py * qw) * px + -(qx * pw - px * qw) * py = c at *
  have nz : ¬ (a = 0 ∧ b = 0 ∧ c = 0) := fun ⟨za, zb, _⟩ => hn (by
    rw [za, Int.mul_zero] at r1
    rw [zb, Int.mul_zero] at r2
    have f : ∀ t, 0 = k * (k * t) → t = 0 := fun t h => by
      rcases Int.mul_eq_zero.mp h.symm with z | z
      · omega
      · rcases Int.mul_eq_zero.mp z with z | z
        · omega
        · exact z
    exact ⟨f _ r1, f _ r2⟩)
  have d0 := cd_pos3 nz
  obtain ⟨e1, e2, e3⟩ := red3_eq (a := a) (b := b) (c := c)
  refine ⟨d0, g * g' * g * cdiv [a, b, c], Int.mul_pos G0 d0, ?_, ?_, ?_⟩
  · rw [Int.mul_assoc, e1, r1]
  · rw [Int.mul_assoc, e2, r2]
  · rw [Int.mul_assoc, e3, r3]
/-! ### the figure -/
section
variable {rim : List Pt} {k : Int} {fl sd : P3}
theorem m_ring (B : BoatOk rim k) : ∃ dots : List Pt, rim = lrim dots ∧ (∀ q ∈ dots, Sm8 q) ∧ ((0, 0) : Pt) ∈ dots ∧ dots.length < 20 ∧ Ring dots rim := by
  obtain ⟨dots, e, h1, h2, h3⟩ := B.of
  refine ⟨dots, e, h1, h2, h3, ?_⟩
  rw [e]
  exact rim_ring (by rw [← e]; exact B.len)
theorem m_sm (B : BoatOk rim k) : ∀ q ∈ rim, Sm8 q := by
  obtain ⟨dots, e, h1, h2, h3, R⟩ := m_ring B
  exact fun q hq => h1 q (R.sub q hq)
theorem m_len (B : BoatOk rim k) : rim.length < 40 := by
  obtain ⟨dots, e, h1, h2, h3, R⟩ := m_ring B
  have a1 := chn_len (ssort dots)
  have a2 := chn_len (ssort dots).reverse
  have a3 := ssort_len dots
  rw [List.length_reverse] at a2
  obtain ⟨_, e2⟩ := lrim_eq (dots := dots) (by rw [← e]; exact B.len)
  rw [e, e2, List.length_append, List.length_dropLast, List.length_dropLast]
  omega
theorem enr_nrmE {i : Nat} : enr rim i = nrmE (prv rim i) (cur rim i) := rfl
theorem m_enr (B : BoatOk rim k) {i : Nat} (hi : i < rim.length) : ¬ ((enr rim i).1 = 0 ∧ (enr rim i).2 = 0) := by
  obtain ⟨dots, e, h1, h2, h3, R⟩ := m_ring B
  have t := R.turn B.len i hi
  rintro ⟨z1, z2⟩
  have : prv rim i = cur rim i := pt_ext (by unfold enr at z2; dsimp only at z2; omega) (by unfold enr at z1; dsimp only at z1; omega)
  rw [this] at t
  have e0 : ∀ a c : Pt, bnd a a c = 0 := fun a c => by unfold bnd; grind
  rw [e0] at t
  omega
theorem m_nz (B : BoatOk rim k) : ∃ q ∈ rim, nz q = true := by
  have hl := B.len
  obtain ⟨dots, e, h1, h2, h3, R⟩ := m_ring B
  by_cases z : nz (cur rim 0) = true
  · exact ⟨_, by unfold cur; rw [List.getD_eq_getElem?_getD, List.getElem?_eq_getElem (by omega)]; exact List.getElem_mem _, z⟩
  · refine ⟨cur rim 1, by unfold cur; rw [List.getD_eq_getElem?_getD, List.getElem?_eq_getElem (by omega)]; exact List.getElem_mem _, ?_⟩
    have ne := m_enr B (i := 1) (by omega)
    unfold enr at ne
    have p1 : prv rim 1 = cur rim 0 := by unfold prv cur; rfl
    rw [p1] at ne
    unfold nz at z ⊢
    dsimp only at ne
    simp at z ⊢
    omega
theorem prv_nx {R : List Pt} {i : Nat} (hi : i < R.length) : nx R i < R.length ∧ prv R (nx R i) = cur R i := by
  unfold nx prv cur
  by_cases h : i + 1 < R.length
  · rw [if_pos h, if_neg (by omega)]
    exact ⟨h, rfl⟩
  · rw [if_neg h, if_pos rfl]
    exact ⟨by omega, by rw [show R.length - 1 = i by omega]⟩
theorem nx_onto {R : List Pt} {j : Nat} (hj : j < R.length) : ∃ i, i < R.length ∧ nx R i = j := by
  unfold nx
  by_cases h : j = 0
  · exact ⟨R.length - 1, by omega, by rw [if_neg (by omega), h]⟩
  · exact ⟨j - 1, by omega, by rw [if_pos (by omega)]; omega⟩
theorem pk_sm {q : Pt} (h : Sm8 q) : (-9 < (Pk k q).1 ∧ (Pk k q).1 < 9) ∧ (-9 < (Pk k q).2.1 ∧ (Pk k q).2.1 < 9) := by
  have d1 := abs_div q.1 (cdiv [q.1, q.2, k])
  have d2 := abs_div q.2 (cdiv [q.1, q.2, k])
  unfold Sm8 at h
  show (-9 < q.1 / cdiv [q.1, q.2, k] ∧ q.1 / cdiv [q.1, q.2, k] < 9) ∧ (-9 < q.2 / cdiv [q.1, q.2, k] ∧ q.2 / cdiv [q.1, q.2, k] < 9)
  omega
theorem und_all (ps : List P3) : ∀ (u : Int), u.natAbs ∣ (ps.foldl (fun u p => ((Nat.lcm u.natAbs p.2.2.natAbs : Nat) : Int)) u).natAbs ∧ ∀ p ∈ ps, p.2.2.natAbs ∣ (ps.foldl (fun u p => ((Nat.lcm u.natAbs p.2.2.natAbs : Nat) : Int)) u).natAbs := by
  induction ps with
  | nil => intro u; exact ⟨Nat.dvd_refl _, fun p hp => absurd hp (by simp)⟩
  | cons p ps ih =>
    intro u
    obtain ⟨h1, h2⟩ := ih ((Nat.lcm u.natAbs p.2.2.natAbs : Nat) : Int)
    rw [Int.natAbs_natCast] at h1
    refine ⟨Nat.dvd_trans (Nat.dvd_lcm_left _ _) h1, fun q hq => ?_⟩
    rcases List.mem_cons.mp hq with e | e
    · rw [e]; exact Nat.dvd_trans (Nat.dvd_lcm_right _ _) h1
    · exact h2 q e
theorem m_pre (B : BoatOk rim k) : HPre (said rim k) := by
  have hl := B.len
  have hm := m_len B
  have hk := B.k
  refine ⟨fun z => ?_, by unfold said; rw [List.length_map]; omega, fun p hp => ?_, k.natAbs, by omega, by omega, fun p hp => ?_⟩
  · have : (said rim k).length = rim.length := List.length_map _
    rw [z] at this
    simp at this
    omega
  · obtain ⟨q, hq, rfl⟩ := List.mem_map.mp hp
    have z := pk_sm (k := k) (m_sm B q hq)
    obtain ⟨g, G⟩ := pk_ok hk.1 q
    have := G.wp
    refine ⟨?_, ?_, this⟩
    · show -1024 < (Pk k q).1 ∧ (Pk k q).1 < 1024
      omega
    · show -1024 < (Pk k q).2.1 ∧ (Pk k q).2.1 < 1024
      omega
  · obtain ⟨q, hq, rfl⟩ := List.mem_map.mp hp
    obtain ⟨g, G⟩ := pk_ok hk.1 q
    exact Int.natAbs_dvd_natAbs.mpr ⟨g, by rw [Int.mul_comm]; exact G.w.symm⟩
theorem m_hull (B : BoatOk rim k) : hul (said rim k) = said rim k := by
  have hk := B.k
  have pre := m_pre B
  obtain ⟨u0, u1⟩ := pre.und_ok (said rim k) fun _ z => z
  obtain ⟨dots, e, h1, h2, h3, R⟩ := m_ring B
  -- the common scale divides k
  have dk : (und (said rim k)).natAbs ∣ k.natAbs := (und_dvd k.natAbs (said rim k) 1 (by decide) (Nat.one_dvd _) fun p hp => by
    obtain ⟨q, hq, rfl⟩ := List.mem_map.mp hp
    obtain ⟨g, G⟩ := pk_ok hk.1 q
    exact ⟨G.wp, Int.natAbs_dvd_natAbs.mpr ⟨g, by rw [Int.mul_comm]; exact G.w.symm⟩⟩).2
  have dw : ∀ r ∈ rim, (Pk k r).2.2 ∣ und (said rim k) := fun r hr => Int.natAbs_dvd_natAbs.mp ((und_all (said rim k) 1).2 _ (List.mem_map.mpr ⟨r, hr, rfl⟩))
  generalize hD : und (said rim k) = Dn at *
  obtain ⟨m, em⟩ := Int.natAbs_dvd_natAbs.mp dk
  have m0 : 0 < m := pos_right u0 (by rw [← em]; exact hk.1)
  -- the rows
  have key : ∀ r ∈ rim, sc m ((Pk k r).1 * (Dn / (Pk k r).2.2), (Pk k r).2.1 * (Dn / (Pk k r).2.2)) = r := fun r hr => by
    obtain ⟨g, G⟩ := pk_ok hk.1 r
    obtain ⟨c, ec⟩ := dw r hr
    have q : Dn / (Pk k r).2.2 = c := by rw [ec]; exact Int.mul_ediv_cancel_left _ (by have := G.wp; omega)
    have gw := G.w
    have gx := G.x
    have gy := G.y
    have wp := G.wp
    rw [q]
    generalize (Pk k r).1 = x at *
    generalize (Pk k r).2.1 = y at *
    generalize (Pk k r).2.2 = w at *
    have eg : g = c * m := by
      have z : w * g = w * (c * m) := by
        rw [← Int.mul_assoc, ← ec, ← em, Int.mul_comm]; exact gw
      exact (eq_sc wp).mp z
    refine pt_ext ?_ ?_
    · show m * (x * c) = r.1
      rw [← gx, eg]; grind
    · show m * (y * c) = r.2
      rw [← gy, eg]; grind
  have hT : (rim.map fun r => (((Pk k r).1 * (Dn / (Pk k r).2.2), (Pk k r).2.1 * (Dn / (Pk k r).2.2)) : Pt)).map (sc m) = rim := by
    rw [List.map_map]
    have : ∀ r ∈ rim, (sc m ∘ fun r => (((Pk k r).1 * (Dn / (Pk k r).2.2), (Pk k r).2.1 * (Dn / (Pk k r).2.2)) : Pt)) r = id r := key
    rw [List.map_congr_left this, List.map_id]
  have hh := hulR_sc m0 (by rw [hT, e]; exact rim_same (by rw [← e]; exact B.len))
  unfold hul rowsOfP
  rw [hD]
  have er : (said rim k).map (fun p => ((p.1 * (Dn / p.2.2), p.2.1 * (Dn / p.2.2)) : Pt)) = rim.map fun r => (((Pk k r).1 * (Dn / (Pk k r).2.2), (Pk k r).2.1 * (Dn / (Pk k r).2.2)) : Pt) := by
    unfold said
    rw [List.map_map]; rfl
  rw [er, hh, List.map_map]
  unfold said
  refine List.map_congr_left fun r hr => ?_
  have kk := key r hr
  show red3 ((Pk k r).1 * (Dn / (Pk k r).2.2)) ((Pk k r).2.1 * (Dn / (Pk k r).2.2)) Dn = Pk k r
  rw [← red3_sc m0 u0]
  have k1 : m * ((Pk k r).1 * (Dn / (Pk k r).2.2)) = r.1 := congrArg Prod.fst kk
  have k2 : m * ((Pk k r).2.1 * (Dn / (Pk k r).2.2)) = r.2 := congrArg Prod.snd kk
  rw [k1, k2, Int.mul_comm m Dn, ← em]
theorem m_spre (B : BoatOk rim k) : SPre (said rim k) := by
  have hl := B.len
  have hm := m_len B
  have hk := B.k
  have sl : (said rim k).length = rim.length := List.length_map _
  refine ⟨by rw [sl]; omega, fun p hp => ?_, fun i p hi => ?_⟩
  · obtain ⟨q, hq, rfl⟩ := List.mem_map.mp hp
    have z := pk_sm (k := k) (m_sm B q hq)
    obtain ⟨g, G⟩ := pk_ok hk.1 q
    have := G.wp
    have := G.wk
    refine ⟨?_, ?_, ?_⟩
    · show -1048576 < (Pk k q).1 ∧ (Pk k q).1 < 1048576
      omega
    · show -1048576 < (Pk k q).2.1 ∧ (Pk k q).2.1 < 1048576
      omega
    · show 0 < (Pk k q).2.2 ∧ (Pk k q).2.2 < 1024
      omega
  · have hi' : i < rim.length := by rw [← sl]; exact (List.getElem?_eq_some_iff.mp hi).1
    have ep := (said_get (k := k) hi').symm.trans hi
    cases ep
    rw [said_nxt hi']
    obtain ⟨n1, n2⟩ := prv_nx hi'
    have ne := m_enr B n1
    rw [enr_nrmE, n2] at ne
    refine ⟨(side_is hk.1 ne).1, ?_⟩
    -- small
    have mem : ∀ j, j < rim.length → cur rim j ∈ rim := fun j hj => by unfold cur; rw [List.getD_eq_getElem?_getD, List.getElem?_eq_getElem hj]; exact List.getElem_mem _
    have s1 := pk_sm (k := k) (m_sm B _ (mem i hi'))
    have s2 := pk_sm (k := k) (m_sm B _ (mem _ n1))
    obtain ⟨g, G⟩ := pk_ok hk.1 (cur rim i)
    obtain ⟨g', G'⟩ := pk_ok hk.1 (cur rim (nx rim i))
    have w1 := G.wp
    have w2 := G.wk
    have w3 := G'.wp
    have w4 := G'.wk
    have pos := (side_is hk.1 ne).1
    generalize Pk k (cur rim i) = p at *
    generalize Pk k (cur rim (nx rim i)) = q at *
    have k1 := mul_bd (a := q.1) (b := p.2.2) (A := 8) (B := 3) (by omega) (by omega)
    have k2 := mul_bd (a := p.1) (b := q.2.2) (A := 8) (B := 3) (by omega) (by omega)
    have k3 := mul_bd (a := q.2.1) (b := p.2.2) (A := 8) (B := 3) (by omega) (by omega)
    have k4 := mul_bd (a := p.2.1) (b := q.2.2) (A := 8) (B := 3) (by omega) (by omega)
    have u : (stp p q).1.natAbs ≤ 48 := by
      unfold stp
      dsimp only
      generalize q.1 * p.2.2 = X at k1 ⊢
      generalize p.1 * q.2.2 = Y at k2 ⊢
      omega
    have v : (stp p q).2.natAbs ≤ 48 := by
      unfold stp
      dsimp only
      generalize q.2.1 * p.2.2 = X at k3 ⊢
      generalize p.2.1 * q.2.2 = Y at k4 ⊢
      omega
    have m1 := mul_bd (a := (stp p q).2) (b := p.2.2) (A := 48) (B := 3) v (by omega)
    have m2 := mul_bd (a := -(stp p q).1) (b := p.2.2) (A := 48) (B := 3) (by omega) (by omega)
    have m3 := mul_bd (a := (stp p q).2) (b := p.1) (A := 48) (B := 8) v (by omega)
    have m4 := mul_bd (a := -(stp p q).1) (b := p.2.1) (A := 48) (B := 8) (by omega) (by omega)
    have m5 : ((stp p q).2 * p.1 + -(stp p q).1 * p.2.1).natAbs ≤ 1000 := by
      generalize (stp p q).2 * p.1 = X at m3 ⊢
      generalize -(stp p q).1 * p.2.1 = Y at m4 ⊢
      omega
    show cdiv [(stp p q).2 * p.2.2, -(stp p q).1 * p.2.2, (stp p q).2 * p.1 + -(stp p q).1 * p.2.1] < 1073741824
    generalize (stp p q).2 * p.2.2 = a at *
    generalize -(stp p q).1 * p.2.2 = b at *
    generalize (stp p q).2 * p.1 + -(stp p q).1 * p.2.1 = c at *
    have dv := cd_dvd3 a b c
    have nz : ¬ (a = 0 ∧ b = 0 ∧ c = 0) := fun ⟨za, zb, zc⟩ => by
      rw [za, zb, zc] at pos
      exact absurd pos (by decide)
    generalize cdiv [a, b, c] = d at *
    have ble : ∀ t : Int, d ∣ t → t ≠ 0 → d ≤ t.natAbs := fun t ht h0 => Int.le_of_dvd (by omega) (Int.dvd_natAbs.mpr ht)
    by_cases za : a = 0
    · by_cases zb : b = 0
      · by_cases zc : c = 0
        · exact absurd ⟨za, zb, zc⟩ nz
        · have := ble c dv.2.2 zc
          omega
      · have := ble b dv.2.1 zb
        omega
    · have := ble a dv.1 za
      omega
theorem sd_len : (Wf.sd (said rim k)).length = rim.length := by
  unfold Wf.sd said
  rw [List.length_mapIdx, List.length_map]
theorem sd_get {i : Nat} (hi : i < rim.length) : (Wf.sd (said rim k))[i]? = some (sdL (Pk k (cur rim i)) (Pk k (cur rim (nx rim i)))) := by
  unfold Wf.sd
  rw [List.getElem?_mapIdx, said_get hi, ← said_nxt hi]
  rfl
/-- the sides are the edges -/
theorem sd_all (B : BoatOk rim k) {s : P3} (hs : s ∈ Wf.sd (said rim k)) : ∃ j, j < rim.length ∧ ∃ A, SideIs k (prv rim j) (cur rim j) s A := by
  obtain ⟨i, hi, e⟩ := List.mem_iff_getElem.mp hs
  rw [sd_len] at hi
  have z := sd_get (k := k) hi
  rw [List.getElem?_eq_getElem (by rw [sd_len]; exact hi), e] at z
  cases z
  obtain ⟨n1, n2⟩ := prv_nx hi
  have ne := m_enr B n1
  rw [enr_nrmE, n2] at ne
  obtain ⟨A, hA⟩ := (side_is B.k.1 ne).2
  exact ⟨nx rim i, n1, A, by rw [n2]; exact hA⟩
theorem sd_ex (B : BoatOk rim k) {j : Nat} (hj : j < rim.length) : ∃ s ∈ Wf.sd (said rim k), ∃ A, SideIs k (prv rim j) (cur rim j) s A := by
  obtain ⟨i, hi, e⟩ := nx_onto hj
  obtain ⟨n1, n2⟩ := prv_nx hi
  have ne := m_enr B n1
  rw [enr_nrmE, n2] at ne
  obtain ⟨A, hA⟩ := (side_is B.k.1 ne).2
  refine ⟨_, List.mem_of_getElem? (sd_get hi), A, ?_⟩
  rw [← e, n2]
  exact hA
theorem edge_h (B : BoatOk rim k) {j : Nat} (hj : j < rim.length) : 0 ≤ dot (nrmE (prv rim j) (cur rim j)) (prv rim j) := by
  obtain ⟨dots, e, h1, h2, h3, R⟩ := m_ring B
  have z := R.edge j hj (0, 0) h2
  have e1 : ∀ a b : Pt, dot (nrmE a b) a = bnd a b (0, 0) := fun a b => by unfold dot nrmE bnd; grind
  rw [e1]; exact z
theorem m_in0 (B : BoatOk rim k) : ∀ s ∈ Wf.sd (said rim k), valAt s (0, 0, 1) ≤ 0 := fun s hs => by
  obtain ⟨j, hj, A, hA⟩ := sd_all B hs
  have h0 := edge_h B hj
  have p : 0 ≤ A * s.2.2 := by rw [hA.h]; exact Int.mul_nonneg (Int.le_of_lt B.k.1) h0
  have : 0 ≤ s.2.2 := (le_sc hA.a).mp (by rw [Int.mul_zero]; exact p)
  unfold valAt
  dsimp only
  omega
theorem m_fig (B : BoatOk rim k) : Fig (said rim k) := ⟨m_pre B, fun p hp => by
  obtain ⟨q, hq, rfl⟩ := List.mem_map.mp hp
  exact cd_red3w B.k.1, m_hull B, m_spre B, m_in0 B⟩
theorem m_ask (B : BoatOk rim k) (F : FlowOk fl) (S : SdeOk sd) : Ask (said rim k) fl sd := ⟨m_fig B, F.v, by have := F.s; omega, S.v, by have := S.s; omega⟩
end
end Wf
set_option Elab.async false
set_option linter.all false
set_option maxRecDepth 100000
set_option maxHeartbeats 2000000
/-! plain law: the winds -/
namespace Wf
open PySem PySem.Spec PyProof.Rows L2
theorem sq0 (a : Int) : 0 ≤ a * a := by rw [← Int.natAbs_mul_self]; omega
theorem sqp {a : Int} (h : a ≠ 0) : 0 < a * a := by
  have := sq0 a
  have h2 : a * a ≠ 0 := fun z => by
    rcases Int.mul_eq_zero.mp z with z | z <;> exact h z
  omega
theorem nrm_pos {n : Pt} (h : ¬ (n.1 = 0 ∧ n.2 = 0)) : 0 < dot n n := by
  unfold dot
  have p1 := sq0 n.1
  have p2 := sq0 n.2
  by_cases e : n.1 = 0
  · have := sqp (a := n.2) fun z => h ⟨e, z⟩
    omega
  · have := sqp e
    omega
theorem nrm_nn (n : Pt) : 0 ≤ dot n n := by
  unfold dot
  have p1 := sq0 n.1
  have p2 := sq0 n.2
  omega
/-- a square below a square -/
theorem le_of_sq {a b : Int} (hb : 0 ≤ b) (h : a * a ≤ b * b) : a ≤ b := by
  by_cases z : a ≤ b
  · exact z
  · have p : 0 < (a - b) * (a + b) := Int.mul_pos (by omega) (by omega)
    have e : (a - b) * (a + b) = a * a - b * b := by grind
    omega
theorem cauchy (n q : Pt) : dot n q * dot n q ≤ dot n n * dot q q := by
  have e : dot n n * dot q q = dot n q * dot n q + (n.1 * q.2 - n.2 * q.1) * (n.1 * q.2 - n.2 * q.1) := by unfold dot; grind
  have := sq0 (n.1 * q.2 - n.2 * q.1)
  omega
theorem mul_le2 {a b c d : Int} (ha : 0 ≤ a) (hd : 0 ≤ d) (h1 : a ≤ b) (h2 : c ≤ d) : a * c ≤ b * d :=
  Int.le_trans (Int.mul_le_mul_of_nonneg_left h2 ha) (Int.mul_le_mul_of_nonneg_right h1 hd)
/-- between two that hold, every one holds -/
theorem cone {X E H1 H2 c al be : Int} {e1 e2 n : Pt} (hX : 0 ≤ X) (hE : 0 ≤ E) (h1 : 0 ≤ H1) (h2 : 0 ≤ H2) (hc : 0 < c) (ha : 0 ≤ al) (hb : 0 ≤ be)
    (x : c * n.1 = al * e1.1 + be * e2.1) (y : c * n.2 = al * e1.2 + be * e2.2) (c1 : X * dot e1 e1 ≤ H1 * H1 * E) (c2 : X * dot e2 e2 ≤ H2 * H2 * E) {H : Int} (hH : c * H = al * H1 + be * H2) : X * dot n n ≤ H * H * E := by
  -- the middle
  have mid : X * dot e1 e2 ≤ H1 * H2 * E := by
    refine le_of_sq (Int.mul_nonneg (Int.mul_nonneg h1 h2) hE) ?_
    have s1 : X * dot e1 e2 * (X * dot e1 e2) = X * X * (dot e1 e2 * dot e1 e2) := by grind
    have s2 : X * X * (dot e1 e2 * dot e1 e2) ≤ X * X * (dot e1 e1 * dot e2 e2) := Int.mul_le_mul_of_nonneg_left (cauchy e1 e2) (sq0 X)
    have s3 : X * X * (dot e1 e1 * dot e2 e2) = (X * dot e1 e1) * (X * dot e2 e2) := by grind
    have s4 : (X * dot e1 e1) * (X * dot e2 e2) ≤ (H1 * H1 * E) * (H2 * H2 * E) := mul_le2 (Int.mul_nonneg hX (nrm_nn e1)) (Int.mul_nonneg (sq0 H2) hE) c1 c2
    have s5 : (H1 * H1 * E) * (H2 * H2 * E) = H1 * H2 * E * (H1 * H2 * E) := by grind
    omega
  have q1 : al * al * (X * dot e1 e1) ≤ al * al * (H1 * H1 * E) := Int.mul_le_mul_of_nonneg_left c1 (sq0 al)
  have q2 : be * be * (X * dot e2 e2) ≤ be * be * (H2 * H2 * E) := Int.mul_le_mul_of_nonneg_left c2 (sq0 be)
  have q3 : al * be * (X * dot e1 e2) ≤ al * be * (H1 * H2 * E) := Int.mul_le_mul_of_nonneg_left mid (Int.mul_nonneg ha hb)
  have l : c * c * (X * dot n n) = al * al * (X * dot e1 e1) + 2 * (al * be * (X * dot e1 e2)) + be * be * (X * dot e2 e2) := by
    have e : c * c * (X * dot n n) = X * ((c * n.1) * (c * n.1) + (c * n.2) * (c * n.2)) := by unfold dot; grind
    rw [e, x, y]
    unfold dot
    grind
  have r : c * c * (H * H * E) = al * al * (H1 * H1 * E) + 2 * (al * be * (H1 * H2 * E)) + be * be * (H2 * H2 * E) := by
    have e : c * c * (H * H * E) = (c * H) * (c * H) * E := by grind
    rw [e, hH]
    grind
  refine (le_sc (Int.mul_pos hc hc)).mp ?_
  omega
/-! ### the reach of the rim -/
def Sup (R : List Pt) (n : Pt) (H : Int) : Prop := (∀ q ∈ R, dot n q ≤ H) ∧ ∃ q ∈ R, dot n q = H
theorem sup_one {R : List Pt} {n : Pt} {H H' : Int} (h : Sup R n H) (h' : Sup R n H') : H = H' := by
  obtain ⟨a, q, hq, e⟩ := h
  obtain ⟨a', q', hq', e'⟩ := h'
  have := a q' hq'
  have := a' q hq
  omega
theorem sup_ex (n : Pt) : ∀ R : List Pt, R ≠ [] → ∃ H, Sup R n H
  | [], h => absurd rfl h
  | [q], _ => ⟨dot n q, fun x hx => by rw [List.mem_singleton.mp hx]; exact Int.le_refl _, q, List.mem_singleton.mpr rfl, rfl⟩
  | q :: r :: l, _ => by
    obtain ⟨H, a, x, hx, e⟩ := sup_ex n (r :: l) (by simp)
    by_cases h : dot n q ≤ H
    · refine ⟨H, fun y hy => ?_, x, List.mem_cons_of_mem _ hx, e⟩
      rcases List.mem_cons.mp hy with z | z
      · rw [z]; exact h
      · exact a y z
    · refine ⟨dot n q, fun y hy => ?_, q, List.mem_cons_self, rfl⟩
      rcases List.mem_cons.mp hy with z | z
      · rw [z]; exact Int.le_refl _
      · have := a y z; omega
theorem sup_sc {R : List Pt} {n n' : Pt} {H g c : Int} (hg : 0 < g) (x : g * n'.1 = c * n.1) (y : g * n'.2 = c * n.2) (hc : 0 < c) (h : Sup R n H) {H' : Int} (h' : Sup R n' H') : g * H' = c * H := by
  obtain ⟨a, q, hq, e⟩ := h
  obtain ⟨a', q', hq', e'⟩ := h'
  have d : ∀ p : Pt, g * dot n' p = c * dot n p := fun p => by
    have e1 : g * dot n' p = (g * n'.1) * p.1 + (g * n'.2) * p.2 := by unfold dot; grind
    rw [e1, x, y]
    unfold dot
    grind
  have z1 := (le_sc hg).mpr (a' q hq)
  have z2 := (le_sc hc).mpr (a q' hq')
  rw [d] at z1
  rw [← d] at z2
  rw [e] at z1
  rw [e'] at z2
  omega
section
variable {rim : List Pt} {k : Int} {fl sd : P3}
/-- what it takes at the normal n of reach H -/
def Cnd (k : Int) (fl sd : P3) (n : Pt) (H : Int) : Prop := drt fl sd * drt fl sd * (k * k) * dot n n ≤ H * H * (fl.2.2 * fl.2.2 * (sd.1 * sd.1 + sd.2.1 * sd.2.1))
theorem cnd_sc {n n' : Pt} {H H' g c : Int} (hg : 0 < g) (hc : 0 < c) (x : g * n'.1 = c * n.1) (y : g * n'.2 = c * n.2) (h : g * H' = c * H) : Cnd k fl sd n' H' ↔ Cnd k fl sd n H := by
  unfold Cnd
  generalize drt fl sd * drt fl sd * (k * k) = X
  generalize fl.2.2 * fl.2.2 * (sd.1 * sd.1 + sd.2.1 * sd.2.1) = E
  have l : g * g * (X * dot n' n') = c * c * (X * dot n n) := by
    have e : g * g * (X * dot n' n') = X * ((g * n'.1) * (g * n'.1) + (g * n'.2) * (g * n'.2)) := by unfold dot; grind
    rw [e, x, y]
    unfold dot
    grind
  have r : g * g * (H' * H' * E) = c * c * (H * H * E) := by
    have e : g * g * (H' * H' * E) = (g * H') * (g * H') * E := by grind
    rw [e, h]
    grind
  rw [← le_sc (Int.mul_pos hg hg), l, r, le_sc (Int.mul_pos hc hc)]
theorem bst_is {air : Pt} {H : Int} (h : Sup rim (nrm sd air) H) (h0 : 0 ≤ H) : bst sd air rim = H := by
  have hvd : ∀ q, hv sd air q = dot (nrm sd air) q := fun q => by unfold hv dot nrm; grind
  have z : ∀ (l : List Pt) (m : Int), m ≤ l.foldl (fun m q => if hv sd air q > m then hv sd air q else m) m ∧ (∀ q ∈ l, hv sd air q ≤ l.foldl (fun m q => if hv sd air q > m then hv sd air q else m) m) ∧ (l.foldl (fun m q => if hv sd air q > m then hv sd air q else m) m = m ∨ ∃ q ∈ l, l.foldl (fun m q => if hv sd air q > m then hv sd air q else m) m = hv sd air q) := by
    intro l
    induction l with
    | nil => intro m; exact ⟨Int.le_refl _, fun q hq => absurd hq (by simp), .inl rfl⟩
    | cons p l ih =>
      intro m
      rw [List.foldl_cons]
      by_cases hh : hv sd air p > m
      · rw [if_pos hh]
        obtain ⟨a, b, c⟩ := ih (hv sd air p)
        refine ⟨by omega, fun q hq => ?_, ?_⟩
        · rcases List.mem_cons.mp hq with e | e
          · rw [e]; exact a
          · exact b q e
        · rcases c with c | ⟨q, hq, c⟩
          · exact .inr ⟨p, List.mem_cons_self, c⟩
          · exact .inr ⟨q, List.mem_cons_of_mem _ hq, c⟩
      · rw [if_neg hh]
        obtain ⟨a, b, c⟩ := ih m
        refine ⟨a, fun q hq => ?_, ?_⟩
        · rcases List.mem_cons.mp hq with e | e
          · rw [e]; omega
          · exact b q e
        · rcases c with c | ⟨q, hq, c⟩
          · exact .inl c
          · exact .inr ⟨q, List.mem_cons_of_mem _ hq, c⟩
  obtain ⟨a, b, c⟩ := z rim 0
  obtain ⟨h1, q, hq, e⟩ := h
  unfold bst
  generalize rim.foldl (fun m q => if hv sd air q > m then hv sd air q else m) 0 = F at *
  have f1 := b q hq
  rw [hvd, e] at f1
  rcases c with c | ⟨r, hr, c⟩
  · omega
  · have := h1 r hr
    rw [hvd] at c
    omega
/-- held, said by the reach -/
theorem hld_iff {air : Pt} {H : Int} (S : SdeOk sd) (h : Sup rim (nrm sd air) H) (h0 : 0 ≤ H) : hld rim k fl sd air = true ↔ drt fl sd ≤ 0 ∨ Cnd k fl sd (nrm sd air) H := by
  have A0 : 0 < sd.1 * sd.1 + sd.2.1 * sd.2.1 := nrm_pos (n := (sd.1, sd.2.1)) S.v.1
  unfold hld Cnd
  rw [Bool.or_eq_true, decide_eq_true_iff, decide_eq_true_iff, bst_is h h0]
  have e1 : (sd.1 * sd.1 + sd.2.1 * sd.2.1) * (drt fl sd * drt fl sd * k * k * (air.1 * air.1 + air.2 * air.2)) = drt fl sd * drt fl sd * (k * k) * dot (nrm sd air) (nrm sd air) := by unfold dot nrm; grind
  have e2 : (sd.1 * sd.1 + sd.2.1 * sd.2.1) * (H * H * fl.2.2 * fl.2.2) = H * H * (fl.2.2 * fl.2.2 * (sd.1 * sd.1 + sd.2.1 * sd.2.1)) := by grind
  rw [← e1, ← e2, le_sc A0]
theorem m_sup (B : BoatOk rim k) (n : Pt) : ∃ H, Sup rim n H ∧ 0 ≤ H := by
  obtain ⟨dots, e, h1, h2, h3, R⟩ := m_ring B
  have hl := B.len
  obtain ⟨H, hH⟩ := sup_ex n rim (fun z => by rw [z] at hl; simp at hl)
  obtain ⟨c, hc, hle⟩ := R.dom n (0, 0) h2
  have := hH.1 c hc
  have e0 : dot n (0, 0) = 0 := by unfold dot; simp
  exact ⟨H, hH, by omega⟩
/-- the reach along an edge's normal -/
theorem edge_sup (B : BoatOk rim k) {j : Nat} (hj : j < rim.length) : Sup rim (enr rim j) (dot (enr rim j) (prv rim j)) := by
  obtain ⟨dots, e, h1, h2, h3, R⟩ := m_ring B
  refine ⟨fun q hq => ?_, prv rim j, ?_, rfl⟩
  · have z := R.edge j hj q (R.sub q hq)
    have e1 : ∀ a b : Pt, bnd a b q = dot (nrmE a b) a - dot (nrmE a b) q := fun a b => by unfold dot nrmE bnd; grind
    rw [e1] at z
    rw [enr_nrmE]
    omega
  · unfold prv
    have hj' : (if j = 0 then rim.length - 1 else j - 1) < rim.length := by split <;> omega
    rw [List.getD_eq_getElem?_getD, List.getElem?_eq_getElem hj']
    exact List.getElem_mem hj'
/-- a wind blown against q: its normal -/
theorem agn_nrm (S : SdeOk sd) {q : Pt} (hq : ¬ (q.1 = 0 ∧ q.2 = 0)) : ∃ g, 0 < g ∧ g * (nrm sd (red (agn sd q).1 (agn sd q).2)).1 = (sd.1 * sd.1 + sd.2.1 * sd.2.1) * q.1 ∧ g * (nrm sd (red (agn sd q).1 (agn sd q).2)).2 = (sd.1 * sd.1 + sd.2.1 * sd.2.1) * q.2 := by
  have A0 : 0 < dot (sd.1, sd.2.1) (sd.1, sd.2.1) := nrm_pos (n := (sd.1, sd.2.1)) S.v.1
  have nz : ¬ ((agn sd q).1 = 0 ∧ (agn sd q).2 = 0) := fun ⟨z1, z2⟩ => by
    have e : dot (sd.1, sd.2.1) (sd.1, sd.2.1) * dot q q = (agn sd q).1 * (agn sd q).1 + (agn sd q).2 * (agn sd q).2 := by unfold dot agn; grind
    rw [z1, z2] at e
    have := Int.mul_pos A0 (nrm_pos hq)
    omega
  obtain ⟨e1, e2⟩ := red_eq (a := (agn sd q).1) (b := (agn sd q).2)
  refine ⟨cdiv [(agn sd q).1, (agn sd q).2], cd_pos2 nz, ?_, ?_⟩
  · have e : cdiv [(agn sd q).1, (agn sd q).2] * (nrm sd (red (agn sd q).1 (agn sd q).2)).1 = -sd.1 * (cdiv [(agn sd q).1, (agn sd q).2] * (red (agn sd q).1 (agn sd q).2).1) - sd.2.1 * (cdiv [(agn sd q).1, (agn sd q).2] * (red (agn sd q).1 (agn sd q).2).2) := by unfold nrm; grind
    rw [e, e1, e2]
    unfold agn
    grind
  · have e : cdiv [(agn sd q).1, (agn sd q).2] * (nrm sd (red (agn sd q).1 (agn sd q).2)).2 = sd.1 * (cdiv [(agn sd q).1, (agn sd q).2] * (red (agn sd q).1 (agn sd q).2).2) - sd.2.1 * (cdiv [(agn sd q).1, (agn sd q).2] * (red (agn sd q).1 (agn sd q).2).1) := by unfold nrm; grind
    rw [e, e1, e2]
    unfold agn
    grind
theorem agn_hld (B : BoatOk rim k) (S : SdeOk sd) {q : Pt} (hq : ¬ (q.1 = 0 ∧ q.2 = 0)) {H : Int} (h : Sup rim q H) : hld rim k fl sd (red (agn sd q).1 (agn sd q).2) = true ↔ drt fl sd ≤ 0 ∨ Cnd k fl sd q H := by
  have A0 : 0 < sd.1 * sd.1 + sd.2.1 * sd.2.1 := nrm_pos (n := (sd.1, sd.2.1)) S.v.1
  obtain ⟨g, g0, x, y⟩ := agn_nrm S hq
  obtain ⟨H', h', h0⟩ := m_sup B (nrm sd (red (agn sd q).1 (agn sd q).2))
  rw [hld_iff S h' h0, cnd_sc g0 A0 x y (sup_sc g0 x y A0 h h')]
/-! ### the two ends -/
theorem all_held (B : BoatOk rim k) (h : ∀ j, j < rim.length → Cnd k fl sd (enr rim j) (dot (enr rim j) (prv rim j))) {n : Pt} {H : Int} (hs : Sup rim n H) : Cnd k fl sd n H := by
  obtain ⟨dots, e, h1, h2, h3, R⟩ := m_ring B
  obtain ⟨a, q, hq, eq⟩ := hs
  obtain ⟨i, hi, ei⟩ := List.mem_iff_getElem.mp hq
  have eqi : cur rim i = q := cur_of (by rw [List.getElem?_eq_getElem hi, ei])
  obtain ⟨n1, n2⟩ := prv_nx hi
  have t := R.turn B.len i hi
  have c1 := h i hi
  have c2 := h _ n1
  have g1 := edge_h B hi
  have g2 := edge_h B n1
  have mem : ∀ j, j < rim.length → cur rim j ∈ rim := fun j hj => by unfold cur; rw [List.getD_eq_getElem?_getD, List.getElem?_eq_getElem hj]; exact List.getElem_mem _
  have memp : prv rim i ∈ rim := by
    obtain ⟨j, hj, ej⟩ : ∃ j, j < rim.length ∧ prv rim i = cur rim j := ⟨if i = 0 then rim.length - 1 else i - 1, by split <;> omega, rfl⟩
    rw [ej]; exact mem j hj
  have u1 := a _ memp
  have u2 := a _ (mem _ n1)
  rw [← enr_nrmE] at g1 g2
  rw [n2] at g2 c2
  have ee : enr rim (nx rim i) = nrmE (cur rim i) (cur rim (nx rim i)) := by rw [enr_nrmE, n2]
  rw [ee] at g2 c2
  rw [enr_nrmE] at g1 c1
  rw [eqi] at *
  generalize prv rim i = p at *
  generalize cur rim (nx rim i) = s at *
  rw [← eq] at u1 u2 ⊢
  unfold Cnd at *
  refine cone (al := dot n q - dot n s) (be := dot n q - dot n p) (c := bnd p q s) (e1 := nrmE p q) (e2 := nrmE q s) (Int.mul_nonneg (sq0 _) (sq0 _)) (Int.mul_nonneg (sq0 _) ?_) g1 g2 t (by omega) (by omega) ?_ ?_ c1 c2 ?_
  · have p1 := sq0 sd.1
    have p2 := sq0 sd.2.1
    omega
  · unfold bnd dot nrmE; grind
  · unfold bnd dot nrmE; grind
  · unfold bnd dot nrmE; grind
theorem none_held (B : BoatOk rim k) (hd : 0 < drt fl sd) {n : Pt} (hn : ¬ (n.1 = 0 ∧ n.2 = 0)) {H : Int} (hs : Sup rim n H) (h : Cnd k fl sd n H) : ∃ q ∈ rim, drt fl sd * drt fl sd * (k * k) ≤ fl.2.2 * fl.2.2 * (sd.1 * sd.1 + sd.2.1 * sd.2.1) * dot q q := by
  obtain ⟨a, q, hq, eq⟩ := hs
  refine ⟨q, hq, ?_⟩
  unfold Cnd at h
  have E0 : 0 ≤ fl.2.2 * fl.2.2 * (sd.1 * sd.1 + sd.2.1 * sd.2.1) := Int.mul_nonneg (sq0 _) (by have p1 := sq0 sd.1; have p2 := sq0 sd.2.1; omega)
  generalize drt fl sd * drt fl sd * (k * k) = X at *
  generalize fl.2.2 * fl.2.2 * (sd.1 * sd.1 + sd.2.1 * sd.2.1) = E at *
  rw [← eq] at h
  have c := Int.mul_le_mul_of_nonneg_right (cauchy n q) E0
  refine (le_sc (nrm_pos hn)).mp ?_
  have e1 : dot n n * X = X * dot n n := Int.mul_comm _ _
  have e2 : dot n n * (E * dot q q) = dot n n * dot q q * E := by grind
  omega
theorem some_held (B : BoatOk rim k) {q : Pt} (hq : q ∈ rim) (hX : 0 < drt fl sd * drt fl sd * (k * k)) (h : drt fl sd * drt fl sd * (k * k) ≤ fl.2.2 * fl.2.2 * (sd.1 * sd.1 + sd.2.1 * sd.2.1) * dot q q) {H : Int} (hs : Sup rim q H) : ¬ (q.1 = 0 ∧ q.2 = 0) ∧ Cnd k fl sd q H := by
  have E0 : 0 ≤ fl.2.2 * fl.2.2 * (sd.1 * sd.1 + sd.2.1 * sd.2.1) := Int.mul_nonneg (sq0 _) (by have p1 := sq0 sd.1; have p2 := sq0 sd.2.1; omega)
  have hle := hs.1 q hq
  refine ⟨fun ⟨z1, z2⟩ => ?_, ?_⟩
  · have : dot q q = 0 := by unfold dot; rw [z1, z2]; rfl
    rw [this, Int.mul_zero] at h
    omega
  · unfold Cnd
    generalize drt fl sd * drt fl sd * (k * k) = X at *
    generalize fl.2.2 * fl.2.2 * (sd.1 * sd.1 + sd.2.1 * sd.2.1) = E at *
    have q0 := nrm_nn q
    have s1 : X * dot q q ≤ E * dot q q * dot q q := Int.mul_le_mul_of_nonneg_right h q0
    have s2 : dot q q * dot q q ≤ H * H := mul_le2 q0 (by omega) hle hle
    have s3 := Int.mul_le_mul_of_nonneg_right s2 E0
    have e : E * dot q q * dot q q = dot q q * dot q q * E := by grind
    omega
end
end Wf
set_option Elab.async false
set_option linter.all false
set_option maxRecDepth 100000
set_option maxHeartbeats 2000000
/-! plain law: what the two functions say is what the law awaits -/
namespace Wf
open PySem PySem.Spec PyProof.Rows L2
structure DrOk (fl sd : P3) (o : Pt) (g : Int) : Prop where
  g0 : 0 < g
  x : g * o.1 = drt fl sd
  y : g * o.2 = fl.2.2
  u : 0 < o.2
theorem dr_ok {fl sd : P3} (h : 0 < fl.2.2) : ∃ g, DrOk fl sd (drf fl sd) g := by
  have e : drf fl sd = red (drt fl sd) fl.2.2 := rfl
  obtain ⟨e1, e2⟩ := red_eq (a := drt fl sd) (b := fl.2.2)
  have g := cd_pos2 (a := drt fl sd) (b := fl.2.2) (fun z => by omega)
  rw [e]
  exact ⟨_, g, e1, e2, pos_right g (by rw [e2]; exact h)⟩
theorem DrOk.le {fl sd : P3} {o : Pt} {g : Int} (h : DrOk fl sd o g) : o.1 ≤ 0 ↔ drt fl sd ≤ 0 := by
  rw [← h.x]
  have := le_sc (a := o.1) (b := 0) h.g0
  rw [Int.mul_zero] at this
  exact this.symm
section
variable {rim : List Pt} {k : Int} {fl sd : P3}
/-- a side's test is the edge's -/
theorem side_cnd {r r' : Pt} {s : P3} {A g : Int} {o : Pt} (hk : 0 < k) (D : DrOk fl sd o g) (h : SideIs k r r' s A) : o.1 * o.1 * (s.1 * s.1 + s.2.1 * s.2.1) ≤ s.2.2 * s.2.2 * (o.2 * o.2 * (sd.1 * sd.1 + sd.2.1 * sd.2.1)) ↔ Cnd k fl sd (nrmE r r') (dot (nrmE r r') r) := by
  have a0 := h.a
  have g0 := D.g0
  have hx := h.x
  have hy := h.y
  have hh := h.h
  have dx := D.x
  have dy := D.y
  unfold Cnd
  generalize sd.1 * sd.1 + sd.2.1 * sd.2.1 = A2
  generalize dot (nrmE r r') r = H at *
  have gA : 0 < (g * A) * (g * A) := Int.mul_pos (Int.mul_pos g0 a0) (Int.mul_pos g0 a0)
  have kk : 0 < k * k := Int.mul_pos hk hk
  have l : (g * A) * (g * A) * (o.1 * o.1 * (s.1 * s.1 + s.2.1 * s.2.1)) = k * k * (drt fl sd * drt fl sd * (k * k) * dot (nrmE r r') (nrmE r r')) := by
    have e : (g * A) * (g * A) * (o.1 * o.1 * (s.1 * s.1 + s.2.1 * s.2.1)) = (g * o.1) * (g * o.1) * ((A * s.1) * (A * s.1) + (A * s.2.1) * (A * s.2.1)) := by grind
    rw [e, dx, hx, hy]
    unfold dot
    grind
  have r : (g * A) * (g * A) * (s.2.2 * s.2.2 * (o.2 * o.2 * A2)) = k * k * (H * H * (fl.2.2 * fl.2.2 * A2)) := by
    have e : (g * A) * (g * A) * (s.2.2 * s.2.2 * (o.2 * o.2 * A2)) = (A * s.2.2) * (A * s.2.2) * ((g * o.2) * (g * o.2) * A2) := by grind
    rw [e, hh, dy]
    grind
  rw [← le_sc gA, l, r, le_sc kk]
theorem allS_iff (B : BoatOk rim k) (F : FlowOk fl) : allS (said rim k) fl sd = true ↔ ∀ j, j < rim.length → Cnd k fl sd (enr rim j) (dot (enr rim j) (prv rim j)) := by
  obtain ⟨g, D⟩ := dr_ok (sd := sd) F.v.1
  unfold allS
  rw [List.all_eq_true]
  constructor
  · intro h j hj
    obtain ⟨s, hs, A, hA⟩ := sd_ex B hj
    exact (side_cnd B.k.1 D hA).mp (of_decide_eq_true (h s hs))
  · intro h s hs
    obtain ⟨j, hj, A, hA⟩ := sd_all B hs
    exact decide_eq_true ((side_cnd B.k.1 D hA).mpr (h j hj))
theorem anyC_iff (B : BoatOk rim k) (F : FlowOk fl) : anyC (said rim k) fl sd = true ↔ ∃ q ∈ rim, drt fl sd * drt fl sd * (k * k) ≤ fl.2.2 * fl.2.2 * (sd.1 * sd.1 + sd.2.1 * sd.2.1) * dot q q := by
  obtain ⟨g, D⟩ := dr_ok (sd := sd) F.v.1
  have one : ∀ q : Pt, ((drf fl sd).1 * (drf fl sd).1 * (Pk k q).2.2 * (Pk k q).2.2 ≤ (drf fl sd).2 * (drf fl sd).2 * (sd.1 * sd.1 + sd.2.1 * sd.2.1) * ((Pk k q).1 * (Pk k q).1 + (Pk k q).2.1 * (Pk k q).2.1)) ↔ drt fl sd * drt fl sd * (k * k) ≤ fl.2.2 * fl.2.2 * (sd.1 * sd.1 + sd.2.1 * sd.2.1) * dot q q := fun q => by
    obtain ⟨c, G⟩ := pk_ok B.k.1 q
    have c0 := G.gp
    have gx := G.x
    have gy := G.y
    have gw := G.w
    have g0 := D.g0
    have dx := D.x
    have dy := D.y
    generalize drf fl sd = o at *
    generalize Pk k q = p at *
    generalize sd.1 * sd.1 + sd.2.1 * sd.2.1 = A2
    have gc : 0 < (g * c) * (g * c) := Int.mul_pos (Int.mul_pos g0 c0) (Int.mul_pos g0 c0)
    have l : (g * c) * (g * c) * (o.1 * o.1 * p.2.2 * p.2.2) = drt fl sd * drt fl sd * (k * k) := by
      have e : (g * c) * (g * c) * (o.1 * o.1 * p.2.2 * p.2.2) = (g * o.1) * (g * o.1) * ((c * p.2.2) * (c * p.2.2)) := by grind
      rw [e, dx, gw]
    have r : (g * c) * (g * c) * (o.2 * o.2 * A2 * (p.1 * p.1 + p.2.1 * p.2.1)) = fl.2.2 * fl.2.2 * A2 * dot q q := by
      have e : (g * c) * (g * c) * (o.2 * o.2 * A2 * (p.1 * p.1 + p.2.1 * p.2.1)) = (g * o.2) * (g * o.2) * A2 * ((c * p.1) * (c * p.1) + (c * p.2.1) * (c * p.2.1)) := by grind
      rw [e, dy, gx, gy]
      rfl
    rw [← le_sc gc, l, r]
  unfold anyC
  rw [List.any_eq_true]
  constructor
  · rintro ⟨p, hp, h⟩
    obtain ⟨q, hq, rfl⟩ := List.mem_map.mp hp
    exact ⟨q, hq, (one q).mp (of_decide_eq_true h)⟩
  · rintro ⟨q, hq, h⟩
    exact ⟨Pk k q, List.mem_map.mpr ⟨q, hq, rfl⟩, decide_eq_true ((one q).mpr h)⟩
/-! ### the reach as the program finds it -/
theorem al_val {n : Pt} {r : Pt} (hk : 0 < k) : (al n (Pk k r)).1 * k = dot n r * (al n (Pk k r)).2 ∧ 0 < (al n (Pk k r)).2 := by
  obtain ⟨c, G⟩ := pk_ok hk r
  have gx := G.x
  have gy := G.y
  have gw := G.w
  have wp := G.wp
  have c0 := G.gp
  unfold al
  generalize (Pk k r).1 = x at *
  generalize (Pk k r).2.1 = y at *
  generalize (Pk k r).2.2 = w at *
  obtain ⟨e1, e2⟩ := red_eq (a := n.1 * x + n.2 * y) (b := w)
  have g := cd_pos2 (a := n.1 * x + n.2 * y) (b := w) (fun z => by omega)
  generalize red (n.1 * x + n.2 * y) w = v at *
  generalize cdiv [n.1 * x + n.2 * y, w] = d at *
  refine ⟨?_, pos_right g (by rw [e2]; exact wp)⟩
  refine (eq_sc (Int.mul_pos g c0)).mp ?_
  have l : d * c * (v.1 * k) = c * k * (d * v.1) := by grind
  have r' : d * c * (dot n r * v.2) = (n.1 * r.1 + n.2 * r.2) * c * (d * v.2) := by unfold dot; grind
  rw [l, r', e1, e2, ← gx, ← gy, ← gw]
  grind
theorem lower_iff {b v : Pt} {β ν : Int} (hk : 0 < k) (hb : b.1 * k = β * b.2) (b0 : 0 < b.2) (hv : v.1 * k = ν * v.2) (v0 : 0 < v.2) : lowerQ b v = true ↔ β < ν := by
  unfold lowerQ
  rw [decide_eq_true_iff]
  have p := Int.mul_pos b0 v0
  have l : k * (b.1 * v.2) = (b.2 * v.2) * β := by
    have : k * (b.1 * v.2) = (b.1 * k) * v.2 := by grind
    rw [this, hb]; grind
  have r : k * (v.1 * b.2) = (b.2 * v.2) * ν := by
    have : k * (v.1 * b.2) = (v.1 * k) * b.2 := by grind
    rw [this, hv]; grind
  rw [← lt_sc hk, l, r, lt_sc p]
theorem supp_is (B : BoatOk rim k) {n : Pt} {H : Int} (h : Sup rim n H) : (supp n (said rim k)).1 * k = H * (supp n (said rim k)).2 ∧ 0 < (supp n (said rim k)).2 := by
  have hk := B.k.1
  have hl := B.len
  have z : ∀ (l : List Pt) (b : Pt) (β : Int), b.1 * k = β * b.2 → 0 < b.2 → ∃ β', ((said l k).foldl (fun b p => if lowerQ b (al n p) then al n p else b) b).1 * k = β' * ((said l k).foldl (fun b p => if lowerQ b (al n p) then al n p else b) b).2 ∧ 0 < ((said l k).foldl (fun b p => if lowerQ b (al n p) then al n p else b) b).2 ∧ β ≤ β' ∧ (∀ q ∈ l, dot n q ≤ β') ∧ (β' = β ∨ ∃ q ∈ l, β' = dot n q) := by
    intro l
    induction l with
    | nil => intro b β hb b0; exact ⟨β, hb, b0, Int.le_refl _, fun q hq => absurd hq (by simp), .inl rfl⟩
    | cons p l ih =>
      intro b β hb b0
      have e : said (p :: l) k = Pk k p :: said l k := rfl
      rw [e, List.foldl_cons]
      obtain ⟨v1, v0⟩ := al_val (n := n) (r := p) hk
      have lw := lower_iff hk hb b0 v1 v0
      by_cases hh : lowerQ b (al n (Pk k p)) = true
      · rw [if_pos hh]
        have lt := lw.mp hh
        obtain ⟨β', a1, a2, a3, a4, a5⟩ := ih _ _ v1 v0
        refine ⟨β', a1, a2, by omega, fun q hq => ?_, ?_⟩
        · rcases List.mem_cons.mp hq with e | e
          · rw [e]; exact a3
          · exact a4 q e
        · rcases a5 with a5 | ⟨q, hq, a5⟩
          · exact .inr ⟨p, List.mem_cons_self, a5⟩
          · exact .inr ⟨q, List.mem_cons_of_mem _ hq, a5⟩
      · rw [if_neg hh]
        have lt : ¬ β < dot n p := fun z => hh (lw.mpr z)
        obtain ⟨β', a1, a2, a3, a4, a5⟩ := ih _ _ hb b0
        refine ⟨β', a1, a2, a3, fun q hq => ?_, ?_⟩
        · rcases List.mem_cons.mp hq with e | e
          · rw [e]; omega
          · exact a4 q e
        · rcases a5 with a5 | ⟨q, hq, a5⟩
          · exact .inl a5
          · exact .inr ⟨q, List.mem_cons_of_mem _ hq, a5⟩
  have e0 : (said rim k).getD 0 (0, 0, 0) = Pk k (cur rim 0) := by
    rw [List.getD_eq_getElem?_getD, said_get (by omega)]; rfl
  obtain ⟨v1, v0⟩ := al_val (n := n) (r := cur rim 0) hk
  obtain ⟨β', a1, a2, a3, a4, a5⟩ := z rim _ _ v1 v0
  have mem0 : cur rim 0 ∈ rim := by unfold cur; rw [List.getD_eq_getElem?_getD, List.getElem?_eq_getElem (by omega)]; exact List.getElem_mem _
  have eH : β' = H := sup_one ⟨a4, by
    rcases a5 with a5 | ⟨q, hq, a5⟩
    · exact ⟨_, mem0, a5.symm⟩
    · exact ⟨q, hq, a5.symm⟩⟩ h
  subst eH
  unfold supp
  rw [e0]
  exact ⟨a1, a2⟩
theorem rp_eq {p q : Pt} (hp : 0 < p.2) (hq : 0 < q.2) : ∃ g, 0 < g ∧ g * (rp p q).1 = p.1 * q.1 ∧ g * (rp p q).2 = p.2 * q.2 ∧ 0 < (rp p q).2 := by
  have h := Int.mul_pos hp hq
  obtain ⟨e1, e2⟩ := red_eq (a := p.1 * q.1) (b := p.2 * q.2)
  have g := cd_pos2 (a := p.1 * q.1) (b := p.2 * q.2) (fun z => by omega)
  exact ⟨_, g, e1, e2, pos_right g (by show 0 < cdiv [p.1 * q.1, p.2 * q.2] * (red (p.1 * q.1) (p.2 * q.2)).2; rw [e2]; exact h)⟩
theorem m_held (B : BoatOk rim k) (F : FlowOk fl) (S : SdeOk sd) {air : Pt} (W : WndOk air) : hiw (said rim k) fl sd air = hld rim k fl sd air := by
  obtain ⟨g, D⟩ := dr_ok (sd := sd) F.v.1
  obtain ⟨H, hH, h0⟩ := m_sup B (nrm sd air)
  obtain ⟨f1, f0⟩ := supp_is B hH
  have hk := B.k.1
  unfold hiw hld
  rw [bst_is hH h0]
  by_cases hd : drt fl sd ≤ 0
  · rw [if_pos (D.le.mpr hd), decide_eq_true hd]; rfl
  · rw [if_neg (fun z => hd (D.le.mp z)), decide_eq_false hd, Bool.false_or]
    have dx := D.x
    have dy := D.y
    have u0 := D.u
    have g0 := D.g0
    generalize drf fl sd = o at *
    generalize supp (nrm sd air) (said rim k) = far at *
    obtain ⟨gx, gx0, x1, x2, x3⟩ := rp_eq f0 f0
    obtain ⟨gy, gy0, y1, y2, y3⟩ := rp_eq u0 u0
    generalize rp far far = X at *
    generalize rp o o = Y at *
    obtain ⟨gz, gz0, z1, z2, z3⟩ := rp_eq (q := ((air.1 * air.1 + air.2 * air.2, 1) : Pt)) y3 (by show (0 : Int) < 1; decide)
    generalize rp Y (air.1 * air.1 + air.2 * air.2, 1) = Z at *
    dsimp only at z1 z2
    generalize air.1 * air.1 + air.2 * air.2 = s at *
    refine Bool.eq_iff_iff.mpr ?_
    unfold lowerQ
    rw [Bool.not_eq_true', decide_eq_false_iff_not, decide_eq_true_iff]
    have c0 : 0 < k * k * (g * g * (gx * (gz * gy))) := Int.mul_pos (Int.mul_pos hk hk) (Int.mul_pos (Int.mul_pos g0 g0) (Int.mul_pos gx0 (Int.mul_pos gz0 gy0)))
    have ff : 0 < far.2 * far.2 := Int.mul_pos f0 f0
    have l : k * k * (g * g * (gx * (gz * gy))) * (X.1 * Z.2) = far.2 * far.2 * (H * H * fl.2.2 * fl.2.2) := by
      have e : k * k * (g * g * (gx * (gz * gy))) * (X.1 * Z.2) = k * k * (g * g) * (gx * X.1) * (gy * (gz * Z.2)) := by grind
      rw [e, x1, z2]
      have e2 : k * k * (g * g) * (far.1 * far.1) * (gy * (Y.2 * 1)) = (far.1 * k) * (far.1 * k) * (g * g) * (gy * Y.2) := by grind
      rw [e2, f1, y2]
      have e3 : H * far.2 * (H * far.2) * (g * g) * (o.2 * o.2) = far.2 * far.2 * (H * H) * ((g * o.2) * (g * o.2)) := by grind
      rw [e3, dy]
      grind
    have r : k * k * (g * g * (gx * (gz * gy))) * (Z.1 * X.2) = far.2 * far.2 * (drt fl sd * drt fl sd * k * k * s) := by
      have e : k * k * (g * g * (gx * (gz * gy))) * (Z.1 * X.2) = k * k * (g * g) * (gx * X.2) * (gy * (gz * Z.1)) := by grind
      rw [e, x2, z1]
      have e2 : k * k * (g * g) * (far.2 * far.2) * (gy * (Y.1 * s)) = k * k * (g * g) * (far.2 * far.2) * ((gy * Y.1) * s) := by grind
      rw [e2, y1]
      have e3 : k * k * (g * g) * (far.2 * far.2) * (o.1 * o.1 * s) = far.2 * far.2 * (((g * o.1) * (g * o.1)) * k * k * s) := by grind
      rw [e3, dx]
    rw [← lt_sc c0, l, r, lt_sc ff]
    omega
/-! ### the law's word -/
theorem allW_iff (B : BoatOk rim k) (S : SdeOk sd) : allW rim k fl sd = true ↔ drt fl sd ≤ 0 ∨ ∀ j, j < rim.length → Cnd k fl sd (enr rim j) (dot (enr rim j) (prv rim j)) := by
  unfold allW
  rw [List.all_eq_true]
  have one : ∀ j, j < rim.length → (hld rim k fl sd (wst rim sd j) = true ↔ drt fl sd ≤ 0 ∨ Cnd k fl sd (enr rim j) (dot (enr rim j) (prv rim j))) := fun j hj => agn_hld B S (m_enr B hj) (edge_sup B hj)
  constructor
  · intro h
    by_cases hd : drt fl sd ≤ 0
    · exact .inl hd
    · exact .inr fun j hj => ((one j hj).mp (h j (List.mem_range.mpr hj))).resolve_left hd
  · rintro (hd | h) j hj
    · exact (one j (List.mem_range.mp hj)).mpr (.inl hd)
    · exact (one j (List.mem_range.mp hj)).mpr (.inr (h j (List.mem_range.mp hj)))
theorem nz_iff {q : Pt} : nz q = true ↔ ¬ (q.1 = 0 ∧ q.2 = 0) := by
  unfold nz
  by_cases h1 : q.1 = 0 <;> by_cases h2 : q.2 = 0 <;> simp [h1, h2]
theorem anyB_iff (B : BoatOk rim k) (S : SdeOk sd) (hd : 0 < drt fl sd) : anyB rim k fl sd = true ↔ ∃ q ∈ rim, drt fl sd * drt fl sd * (k * k) ≤ fl.2.2 * fl.2.2 * (sd.1 * sd.1 + sd.2.1 * sd.2.1) * dot q q := by
  unfold anyB
  rw [List.any_eq_true]
  have hX : 0 < drt fl sd * drt fl sd * (k * k) := Int.mul_pos (Int.mul_pos hd hd) (Int.mul_pos B.k.1 B.k.1)
  constructor
  · rintro ⟨q, hq, h⟩
    obtain ⟨hq1, hq2⟩ := List.mem_filter.mp hq
    obtain ⟨H, hH, _⟩ := m_sup B q
    have hz := nz_iff.mp hq2
    exact none_held B hd hz hH (((agn_hld B S hz hH).mp h).resolve_left (by omega))
  · rintro ⟨q, hq, h⟩
    obtain ⟨H, hH, _⟩ := m_sup B q
    obtain ⟨hz, hc⟩ := some_held B hq hX h hH
    exact ⟨q, List.mem_filter.mpr ⟨hq, nz_iff.mpr hz⟩, (agn_hld B S hz hH).mpr (.inr hc)⟩
theorem m_due (B : BoatOk rim k) (F : FlowOk fl) (S : SdeOk sd) : wof (said rim k) fl sd = dueS rim k fl sd := by
  obtain ⟨g, D⟩ := dr_ok (sd := sd) F.v.1
  unfold wof dueS
  by_cases hd : drt fl sd ≤ 0
  · rw [if_pos (D.le.mpr hd), if_pos ((allW_iff B S).mpr (.inl hd))]
  · rw [if_neg (fun z => hd (D.le.mp z))]
    have e1 : allS (said rim k) fl sd = allW rim k fl sd := Bool.eq_iff_iff.mpr (by
      rw [allS_iff B F, allW_iff B S]
      exact ⟨.inr, fun h => h.resolve_left hd⟩)
    have e2 : anyC (said rim k) fl sd = anyB rim k fl sd := Bool.eq_iff_iff.mpr (by rw [anyC_iff B F, anyB_iff B S (by omega)])
    rw [e1, e2]
theorem m_all (B : BoatOk rim k) (F : FlowOk fl) (S : SdeOk sd) {air : Pt} (W : WndOk air) (h : dueS rim k fl sd = "all") : hld rim k fl sd air = true := by
  obtain ⟨H, hH, h0⟩ := m_sup B (nrm sd air)
  have hw : allW rim k fl sd = true := by
    unfold dueS at h
    by_cases z : allW rim k fl sd = true
    · exact z
    · rw [if_neg z] at h
      split at h <;> exact absurd h (by decide)
  rw [hld_iff S hH h0]
  rcases (allW_iff B S).mp hw with z | z
  · exact .inl z
  · exact .inr (all_held B z hH)
theorem m_none (B : BoatOk rim k) (F : FlowOk fl) (S : SdeOk sd) {air : Pt} (W : WndOk air) (h : dueS rim k fl sd = "none") : hld rim k fl sd air = false := by
  obtain ⟨H, hH, h0⟩ := m_sup B (nrm sd air)
  have hw : ¬ allW rim k fl sd = true := fun z => by
    unfold dueS at h
    rw [if_pos z] at h
    exact absurd h (by decide)
  have hb : ¬ anyB rim k fl sd = true := fun z => by
    unfold dueS at h
    rw [if_neg hw, if_pos z] at h
    exact absurd h (by decide)
  have hd : 0 < drt fl sd := by
    by_cases z : drt fl sd ≤ 0
    · exact absurd ((allW_iff B S).mpr (.inl z)) hw
    · omega
  have an : ¬ (air.1 = 0 ∧ air.2 = 0) := fun ⟨z1, z2⟩ => by
    have := W.1
    rw [z1, z2] at this
    exact absurd this (by decide)
  have nn : ¬ ((nrm sd air).1 = 0 ∧ (nrm sd air).2 = 0) := fun ⟨z1, z2⟩ => by
    have e : dot (sd.1, sd.2.1) (sd.1, sd.2.1) * dot air air = (nrm sd air).1 * (nrm sd air).1 + (nrm sd air).2 * (nrm sd air).2 := by unfold dot nrm; grind
    rw [z1, z2] at e
    have := Int.mul_pos (nrm_pos (n := (sd.1, sd.2.1)) S.v.1) (nrm_pos an)
    omega
  refine Bool.eq_false_iff.mpr fun z => hb ((anyB_iff B S hd).mpr ?_)
  exact none_held B hd nn hH (((hld_iff S hH h0).mp z).resolve_left (by omega))
end
end Wf
set_option Elab.async false
set_option linter.all false
set_option maxRecDepth 100000
set_option maxHeartbeats 4000000
/-! the law's defs that draw -/
namespace Wf
open PySem PySem.Spec PyProof.Rows L2
local macro_rules | `(tactic| walk_at "mul") => `(tactic| ((try dsimp only); first | exact Or.inl (by omega) | exact Or.inr (by omega)))
local macro_rules | `(tactic| walk_at "ed") => `(tactic| first
  | exact ed_var
  | exact ed_int
  | exact ed_bl
  | exact ed_str
  | (apply ed_add <;> walk_at "ed")
  | (apply ed_sub <;> walk_at "ed")
  | (apply ed_mul <;> first | walk_at "ed" | walk_at "mul")
  | (apply ed_neg <;> walk_at "ed")
  | (apply ed_ixT <;> first | walk_at "ed" | rfl)
  | (apply ed_lt <;> walk_at "ed")
  | (apply ed_le <;> walk_at "ed")
  | (apply ed_gt <;> walk_at "ed")
  | (apply ed_ge <;> walk_at "ed")
  | (apply ed_eqI <;> walk_at "ed")
  | (apply ed_tup <;> first | walk_at "ea" | exact Nat.le_of_ble_eq_true rfl))
local macro_rules | `(tactic| walk_at "ea") => `(tactic| first
  | exact ea_nil
  | (apply ea_cons <;> first | walk_at "ed" | walk_at "ea"))
theorem En.cons {K : PySem.W.Frag} {G : Hp} {σ : L2.St} {es : List (Option PyData)} {x : Option V} (h : En K G σ es) : En K G (x :: σ) (none :: es) := ⟨by rw [List.length_cons, List.length_cons, h.1], fun i d e => by
  cases i with
  | zero => cases e
  | succ i => exact h.2 i d e⟩
def spK (K : PySem.W.Frag) : Sp := fun vs H Q _ => ∃ (a : Addr) (ns : List Int) (t : Int), vs = [.ref a, .int t] ∧ SqL K H a (ns.map V.int) ∧ ns.length ≤ 63 ∧ 0 ≤ t ∧ t < 1000 ∧ ∀ p H', H p = none → Same H H' → Sk H' p → Q (.ref p) H'
def R__law_draw (ds : List PyData) (PP : PyData → Prop) : Prop := ∃ n : Int, ds = [.int n] ∧ 0 < n ∧ n < 1073741824 ∧ PP = PI fun r => 0 ≤ r ∧ r < n
def R__law_one (ds : List PyData) (PP : PyData → Prop) : Prop := ∃ L : List PyData, (ds = [.list L] ∨ ds = [.tuple L]) ∧ 0 < L.length ∧ L.length ≤ 1000 ∧ PP = fun d => d ∈ L
def R__law_side (ds : List PyData) (PP : PyData → Prop) : Prop := ds = [] ∧ PP = fun d => ∃ sd : P3, d = dp sd ∧ SdeOk sd
def R__law_boat (ds : List PyData) (PP : PyData → Prop) : Prop := ds = [] ∧ PP = fun d => ∃ (rim : List Pt) (k : Int), d = boatD rim k ∧ BoatOk rim k
section
variable {P : Program} {w : World} {K : PySem.W.Frag} {mg : Str → Option Value} {base : Heap} {x : Str} {st : Stmt} {ps N : List Str} {k : Nat}
theorem ok_ofS {n0 : Str} {R : List PyData → (PyData → Prop) → Prop} (h : DefOk K mg x st ps) (S : FnScope (n0 :: N) ps (defScope st)) (hlen : ∀ ds PP, R ds PP → ds.length + 1 = ps.length)
    (body : ∀ (cdv : Value) (A : Around) (outer : List Env) (s : Shared) (H0 : Hp) (E : XK), Room k (A.deeper (envOfC x (defScope st) s.heap.objs.size (He.ga K x) cdv)) →
      ∃ t, PSs (cxOf CX0 P w K mg base (n0 :: N) x (defScope st) (He.ga K x) cdv A outer s H0 E).nox (defBody st) t ∧ ∀ ds PP, R ds PP → ∀ l σ G H D, En K G σ (none :: sEnv N ds) → Same G H → G l = none → σ[0]? = some (some (.ref l)) → Sk H l → (∀ v d G' H', PP d → Nw (some l) G H G' H' → Sk H' l → Dp K G' v d → D.rt v H') → t D σ H) : OkF P w K mg base (k + 1) x st ps (spS K R) :=
  ok_sp h S (fun vs H Q E ⟨G, l, ws, ds, PP, e, _, _, _, hd, hr, _⟩ => by rw [e, List.length_cons, dps_len hd]; exact hlen ds PP hr) fun cdv A outer s H0 E hr => by
    obtain ⟨t, h1, h2⟩ := body cdv A outer s H0 E hr
    refine ⟨t, h1, fun vs H Q E' ⟨G, l, ws, ds, PP, e, hs, g, sk, hd, hr, q⟩ => ?_⟩
    subst e
    have es : L2.start (n0 :: N) (V.ref l :: ws) = some (V.ref l) :: L2.start N ws := by
      unfold L2.start
      simp
    rw [es]
    exact h2 ds PP hr l _ G H _ (dps_env hd).cons hs g rfl sk q
end
/-! ### drawing -/
def DrJ (H : Hp) (l : Addr) (x y z : Int) (H' : Hp) : Prop := H' l = some (.lst [.int x, .int y, .int z]) ∧ ∀ b o, H b = some o → b ≠ l → H' b = some o
def lstD (x y z : Int) : PyData := .list [.int x, .int y, .int z]
def Gl3 (l : Addr) (x y z : Int) : Hp := upd (fun _ => none) l (.lst [.int x, .int y, .int z])
section
variable {K : PySem.W.Frag} {H H1 : Hp} {l : Addr} {x y z r a b n : Int} {te : TE} {es : List (Option PyData)} {σ : L2.St} {Q : VK}
theorem gl3_same (j : DrJ H l x y z H1) : Same (Gl3 l x y z) H1 := fun b o e => by
  unfold Gl3 at e
  by_cases hb : b = l
  · subst hb; rw [upd_same] at e; cases e; exact j.1
  · rw [upd_ne hb] at e; cases e
theorem gl3_en (u v : Option V) : En K (Gl3 l x y z) [some (.ref l), some (.int n), u, v] [some (lstD x y z), some (.int n), none, none] := ⟨rfl, fun i d e => by
  match i, e with
  | 0, e => cases e; exact ⟨_, rfl, .lst (SqL.of upd_same) (ints_dps [x, y, z])⟩
  | 1, e => cases e; exact ⟨_, rfl, .int n⟩
  | 2, e => cases e
  | 3, e => cases e
  | i + 4, e => cases e⟩
theorem gl3_en3 (u : Option V) (b : Int) : En K (Gl3 l x y z) [some (.ref l), some (.int n), u, some (.int b)] [some (lstD x y z), some (.int n), none, some (.int b)] := ⟨rfl, fun i d e => by
  match i, e with
  | 0, e => cases e; exact ⟨_, rfl, .lst (SqL.of upd_same) (ints_dps [x, y, z])⟩
  | 1, e => cases e; exact ⟨_, rfl, .int n⟩
  | 2, e => cases e
  | 3, e => cases e; exact ⟨_, rfl, .int b⟩
  | i + 4, e => cases e⟩
theorem drj_keep {H2 : Hp} (j : DrJ H l x y z H1) (e : Same H1 H2) : DrJ H l x y z H2 := ⟨e _ _ j.1, fun b o h hb => e _ _ (j.2 b o h hb)⟩
theorem dr_ed (he : Ed K te es (.int r)) (hE : En K (Gl3 l x y z) σ es) (j : DrJ H l x y z H1) (k : ∀ H2, DrJ H l x y z H2 → Q (.int r) H2) : te σ H1 Q := he σ _ H1 hE (gl3_same j) Q fun v G2 H2 n2 dv => by
  cases dp_int dv
  exact k H2 (drj_keep j n2.keep)
theorem dr_seq {t u : TS} {D : Ends} {H : Hp} (h : t { D with nx := u D } σ H) : tSeq t u D σ H := h
theorem dr_asg {g : TG} {D : Ends} (he : Ed K te es (.int r)) (hE : En K (Gl3 l x y z) σ es) (j : DrJ H l x y z H1) (k : ∀ H2, DrJ H l x y z H2 → g (.int r) σ H2 D.nx) : tAsg te g D σ H1 := dr_ed he hE j k
theorem dr_ret {D : Ends} (he : Ed K te es (.int r)) (hE : En K (Gl3 l x y z) σ es) (j : DrJ H l x y z H1) (k : ∀ H2, DrJ H l x y z H2 → D.rt (.int r) H2) : tRet te D σ H1 := dr_ed he hE j k
theorem dr_asgT {g : TG} {D : Ends} (he : Ed K te es (.tuple [.int a, .int b])) (hE : En K (Gl3 l x y z) σ es) (j : DrJ H l x y z H1) (k : ∀ p H2, DrJ H l x y z H2 → SqT K H2 p [.int a, .int b] → g (.ref p) σ H2 D.nx) : tAsg te g D σ H1 := he σ _ H1 hE (gl3_same j) _ fun v G2 H2 n2 dv => by
  obtain ⟨p, xs, rfl, hq, hxs⟩ := dp_tup dv
  obtain ⟨va, vb, rfl, ha, hb⟩ := dps2 hxs
  cases dp_int ha
  cases dp_int hb
  exact k p H2 (drj_keep j n2.keep) (same_seqT n2.s hq)
theorem drj_end {G H' : Hp} (hS : Same G H) (g : G l = none) (hl : Sk H l) (j : DrJ H l x y z H') : Nw (some l) G H G H' := by
  refine ⟨Same.refl G, fun b o e => j.2 b o (hS b o e) (fun z => by rw [z, g] at e; cases e), fun b o e => ?_, fun _ _ e => e⟩
  by_cases hb : b = l
  · subst hb
    exact ⟨⟨_, j.1⟩, fun z => absurd rfl z⟩
  · exact ⟨⟨o, j.2 b o e hb⟩, fun _ => j.2 b o e hb⟩
theorem drj_put {v : V} {i : Nat} {x' y' z' : Int} (j : DrJ H l x y z H1) (e : ([.int x, .int y, .int z] : List V).set i v = [.int x', .int y', .int z']) : DrJ H l x' y' z' (upd H1 l (.lst (([.int x, .int y, .int z] : List V).set i v))) := ⟨by rw [upd_same, e], fun b o h hb => by rw [upd_ne hb]; exact j.2 b o h hb⟩
end
section
variable {P : Program} {w : World} {K : PySem.W.Frag} {mg : Str → Option Value} {base : Heap} (T : Blt K mg)
include T
theorem ok__law_draw (D : DefOk K mg "_law_draw" s__law_draw p__law_draw)  : OkF P w K mg base 1 "_law_draw" s__law_draw p__law_draw (spS K R__law_draw) := by
  refine ok_ofS D c__law_draw (fun ds PP h => ?_) (fun cdv A outer s H0 E hr => ⟨_, (pss_cons (ps_if (pt_cmpR op_gt (pe_ix ix_list (pv 0) pe_int (fun _ _ => rfl)) pe_int (nomark _)) (pss_cons (ps_asg (pe_callB call_divmod (by rfl) T.divmod bb_divmod (pa_cons (pe_ix ix_list (pv 0) pe_int (fun _ _ => rfl)) (pa_cons (pv 1) pa_nil))) (pg_tup rfl (pgs_cons (pg_sub (pv 0) pe_int set_list) (pgs_cons (pg_name (i := 2) c__law_draw.nd rfl (by first | exact Or.inl rfl | exact Or.inr rfl)) pgs_nil))))
    (pss_one (ps_ret (pv 2)))) pss_nil)
    (pss_cons (ps_asg (pe_op op_add (pe_ix ix_list (pv 0) pe_int (fun _ _ => rfl)) pe_int) (pg_sub (pv 0) pe_int set_list))
    (pss_cons (ps_set (i := 3) c__law_draw.nd rfl (by first | exact Or.inl rfl | exact Or.inr rfl) (pe_op op_mod (pe_callTy call_int1 (by rfl) T.int bb_int (pa_cons (pe_op op_add (pe_op op_mul (pe_ix ix_list (pv 0) pe_int (fun _ _ => rfl)) pe_int) (pe_op op_mul (pe_ix ix_list (pv 0) pe_int (fun _ _ => rfl)) pe_int)) pa_nil)) pe_int))
    (pss_cons (ps_asg (pe_op op_mod (pe_callTy call_int1 (by rfl) T.int bb_int (pa_cons (pe_op op_add (pe_op op_mul (pv 3) (pe_op op_add (pe_op op_mod (pe_callTy call_int1 (by rfl) T.int bb_int (pa_cons (pe_op op_fdiv (pv 3) pe_int) pa_nil)) pe_int) pe_int)) pe_int) pa_nil)) pe_int) (pg_sub (pv 0) pe_int set_list))
    (pss_one (ps_ret (pe_op op_mod (pe_callTy call_int1 (by rfl) T.int bb_int (pa_cons (pe_op op_fdiv (pe_ix ix_list (pv 0) pe_int (fun _ _ => rfl)) pe_int) pa_nil)) (pv 1)))))))), fun ds PP h l σ G H D hE hS g hσ hs q => ?_⟩)
  · obtain ⟨n, rfl, _⟩ := h; rfl
  · obtain ⟨n, rfl, n0, n1, rfl⟩ := h
    obtain ⟨x, y, z, hl⟩ := id hs
    -- the names
    obtain ⟨u, v, rfl⟩ : ∃ u v, σ = [some (.ref l), some (.int n), u, v] := by
      have hlen := hE.1
      obtain ⟨vn, e1, dn⟩ := hE.2 1 (.int n) rfl
      cases dp_int dn
      match σ, hlen, hσ, e1 with
      | [a, b, c, d], _, hσ, e1 => cases hσ; cases e1; exact ⟨c, d, rfl⟩
    have j0 : DrJ H l x y z H := ⟨hl, fun b o e _ => e⟩
    have fin : ∀ r H', 0 ≤ r → r < n → (∃ x y z, DrJ H l x y z H') → D.rt (.int r) H' := fun r H' h0 h1 ⟨x, y, z, j⟩ => q (.int r) (.int r) G H' ⟨r, rfl, h0, h1⟩ (drj_end hS g hs j) ⟨x, y, z, j.1⟩ (.int r)
    have hnx : Et K _ _ (decide (0 < x)) := et_test (ed_gt (ed_ixL (K := K) (es := [some (lstD x y z), some (.int n), none, none]) (ed_var (i := 0)) (ed_int (a := 0)) rfl) (ed_int (a := 0)))
    refine hnx _ _ H (gl3_en u v) (gl3_same j0) _ fun H1 s1 => ?_
    have j1 := drj_keep j0 s1
    by_cases hx : 0 < x
    · rw [decide_eq_true hx, if_pos rfl]
      refine dr_seq (dr_asgT (ed_cb (ea_cons (ed_ixL (K := K) (es := [some (lstD x y z), some (.int n), none, none]) (ed_var (i := 0)) (ed_int (a := 0)) rfl) (ea_cons (ed_var (i := 1)) ea_nil)) (bc_divmod ⟨n0, n1⟩)) (gl3_en u v) j1 fun a H2 j2 hq => ?_)
      refine ⟨a, _, rfl, hq, rfl, _, _, rfl, ⟨.ref l, rfl, ⟨l, _, 0, 0, rfl, rfl, j2.1, rfl, ?_⟩⟩⟩
      refine ⟨_, _, rfl, rfl, ?_⟩
      exact ⟨_, rfl, fin _ _ (Int.emod_nonneg _ (by omega)) (Int.emod_lt_of_pos _ n0) ⟨_, _, _, drj_put (x' := x / n) j2 rfl⟩⟩
    · rw [decide_eq_false hx, if_neg Bool.false_ne_true]
      refine dr_seq (dr_asg (ed_add (ed_ixL (K := K) (es := [some (lstD x y z), some (.int n), none, none]) (ed_var (i := 0)) (ed_int (a := 2)) rfl) (ed_int (a := 1))) (gl3_en u v) j1 fun H2 j2 => ?_)
      refine ⟨.ref l, rfl, ⟨l, _, 2, 2, rfl, rfl, j2.1, rfl, ?_⟩⟩
      have j3 := drj_put (i := 2) (v := .int (z + 1)) (x' := x) (y' := y) (z' := z + 1) j2 rfl
      refine dr_seq (dr_asg (ed_mod (ed_int1 (ed_add (ed_mul (ed_ixL (K := K) (es := [some (lstD x y (z + 1)), some (.int n), none, none]) (ed_var (i := 0)) (ed_int (a := 1)) rfl) (ed_int (a := 16807)) (.inr (by decide))) (ed_mul (ed_ixL (K := K) (es := [some (lstD x y (z + 1)), some (.int n), none, none]) (ed_var (i := 0)) (ed_int (a := 2)) rfl) (ed_int (a := 48611)) (.inr (by decide))))) (ed_int (a := 2147483543)) (by decide)) (gl3_en u v) j3 fun H4 j4 => ?_)
      generalize (y * 16807 + (z + 1) * 48611) % 2147483543 = bl
      have m1 := Int.emod_nonneg (bl / 11) (b := 3001) (by decide)
      have m2 := Int.emod_lt_of_pos (bl / 11) (b := 3001) (by decide)
      refine dr_seq (dr_asg (ed_mod (ed_int1 (ed_add (ed_mul (ed_var (K := K) (es := [some (lstD x y (z + 1)), some (.int n), none, some (.int bl)]) (i := 3)) (ed_add (ed_mod (ed_int1 (ed_fdiv (ed_var (i := 3)) (ed_int (a := 11)) ⟨by decide, by decide⟩)) (ed_int (a := 3001)) (by decide)) (ed_int (a := 10007))) (.inr (by omega))) (ed_int (a := 29)))) (ed_int (a := 2147483543)) (by decide)) (gl3_en3 u bl) j4 fun H5 j5 => ?_)
      generalize (bl * (bl / 11 % 3001 + 10007) + 29) % 2147483543 = y2
      refine ⟨.ref l, rfl, ⟨l, _, 1, 1, rfl, rfl, j5.1, rfl, ?_⟩⟩
      have j6 := drj_put (i := 1) (v := .int y2) (x' := x) (y' := y2) (z' := z + 1) j5 rfl
      refine dr_ret (ed_mod (ed_int1 (ed_fdiv (ed_ixL (K := K) (es := [some (lstD x y2 (z + 1)), some (.int n), none, some (.int bl)]) (ed_var (i := 0)) (ed_int (a := 1)) rfl) (ed_int (a := 523)) ⟨by decide, by decide⟩)) (ed_var (i := 1)) n0) (gl3_en3 u bl) j6 fun H7 j7 => ?_
      exact fin _ _ (Int.emod_nonneg _ (by omega)) (Int.emod_lt_of_pos _ n0) ⟨_, _, _, j7⟩
theorem ok__law_one (D : DefOk K mg "_law_one" s__law_one p__law_one) (o__law_draw : OkF P w K mg base 1 "_law_draw" s__law_draw p__law_draw (spS K R__law_draw)) : OkF P w K mg base 2 "_law_one" s__law_one p__law_one (spS K R__law_one) := by
  refine ok_ofS D c__law_one (fun ds PP h => ?_) (fun cdv A outer s H0 E hr => ⟨_, (pss_one (ps_ret (pe_ix ix_any (pv 1) (pe_own o__law_draw (hr.mono (by decide)) (by rfl) (pa_cons (pv 0) (pa_cons (pe_callB call_len_seq (by rfl) T.len bb_len (pa_cons (pv 1) pa_nil)) pa_nil))) (fun _ _ => rfl)))), fun ds PP h l σ G H D hE hS g hσ hs q => ?_⟩)
  · obtain ⟨L, rfl | rfl, _⟩ := h <;> rfl
  · obtain ⟨L, hds, l0, l1, rfl⟩ := h
    have at_ok : ∀ r : Int, 0 ≤ r → r < L.length → ∃ d, atI L r = some d ∧ d ∈ L := fun r h0 h1 => by
      have e : ((r.toNat : Nat) : Int) = r := by omega
      have hi : r.toNat < L.length := by omega
      have z : atI L ((r.toNat : Nat) : Int) = some L[r.toNat] := atI_nat (List.getElem?_eq_getElem hi)
      exact ⟨L[r.toNat], e ▸ z, List.getElem_mem hi⟩
    rcases hds with rfl | rfl
    · refine sk_ret (sk_start hE hS g hσ hs) (es_op (es_of ed_var) (es_callS (ea_cons (ed_lenL ed_var rfl) ea_nil) ⟨_, rfl, by omega, by omega, rfl⟩) fun d1 d2 p1 p2 => ?_) q
      subst p1
      obtain ⟨r, rfl, r0, r1⟩ := p2
      obtain ⟨d, hd, hm⟩ := at_ok r r0 r1
      refine ⟨d, fun G H x y hx hy hS Q k => ?_, hm⟩
      cases dp_int hy
      obtain ⟨p, xs, rfl, hs, ha⟩ := dp_lst hx
      obtain ⟨v, hv, dv⟩ := at_dps ha hd
      exact .inl ⟨p, xs, r, v, rfl, rfl, hS.seq hs, hv, k v G H (Nw.refl hS) dv⟩
    · refine sk_ret (sk_start hE hS g hσ hs) (es_op (es_of ed_var) (es_callS (ea_cons (ed_lenT ed_var rfl) ea_nil) ⟨_, rfl, by omega, by omega, rfl⟩) fun d1 d2 p1 p2 => ?_) q
      subst p1
      obtain ⟨r, rfl, r0, r1⟩ := p2
      obtain ⟨d, hd, hm⟩ := at_ok r r0 r1
      refine ⟨d, fun G H x y hx hy hS Q k => ?_, hm⟩
      cases dp_int hy
      obtain ⟨p, xs, rfl, hs, ha⟩ := dp_tup hx
      obtain ⟨v, hv, dv⟩ := at_dps ha hd
      exact .inr ⟨p, xs, r, v, rfl, rfl, same_seqT hS hs, hv, k v G H (Nw.refl hS) dv⟩
theorem ok__law_side (D : DefOk K mg "_law_side" s__law_side p__law_side) (o__law_gcd : OkF P w K mg base 1 "_law_gcd" s__law_gcd p__law_gcd (spD K R__law_gcd)) (o__law_draw : OkF P w K mg base 1 "_law_draw" s__law_draw p__law_draw (spS K R__law_draw)) : OkF P w K mg base 2 "_law_side" s__law_side p__law_side (spS K R__law_side) := by
  refine ok_ofS D c__law_side (fun ds PP h => ?_) (fun cdv A outer s H0 E hr => ⟨_, (pss_cons (ps_par3 (i := 1) (j := 2) (l := 3) rfl c__law_side.nd rfl rfl rfl (by decide) (by decide) (by decide) rfl rfl rfl (pa_cons (pe_op op_sub (pe_own o__law_draw (hr.mono (by decide)) (by rfl) (pa_cons (pv 0) (pa_cons pe_int pa_nil))) pe_int) (pa_cons (pe_op op_sub (pe_own o__law_draw (hr.mono (by decide)) (by rfl) (pa_cons (pv 0) (pa_cons pe_int pa_nil))) pe_int) (pa_cons (pe_op op_sub (pe_own o__law_draw (hr.mono (by decide)) (by rfl) (pa_cons (pv 0) (pa_cons pe_int pa_nil))) pe_int) pa_nil))) (by rfl))
    (pss_cons (ps_set (i := 1) c__law_side.nd rfl (by first | exact Or.inl rfl | exact Or.inr rfl) (pe_ifExp (PW.pt (pw_or (pt_cmpR op_ne (pv 2) pe_int (nomark _)) (pw_or1 (pt_cmpR op_ne (pv 1) pe_int (nomark _))))) (pv 1) pe_int))
    (pss_cons (ps_set (i := 4) c__law_side.nd rfl (by first | exact Or.inl rfl | exact Or.inr rfl) (pe_own o__law_gcd (hr.mono (by decide)) (by rfl) (pa_cons (pe_own o__law_gcd (hr.mono (by decide)) (by rfl) (pa_cons (pv 1) (pa_cons (pv 2) pa_nil))) (pa_cons (pv 3) pa_nil))))
    (pss_one (ps_ret (pe_tup (pa_cons (pe_op op_fdiv (pv 1) (pv 4)) (pa_cons (pe_op op_fdiv (pv 2) (pv 4)) (pa_cons (pe_op op_fdiv (pv 3) (pv 4)) pa_nil))))))))), fun ds PP h l σ G H D hE hS g hσ hs q => ?_⟩)
  · obtain ⟨rfl, _⟩ := h; rfl
  · obtain ⟨rfl, rfl⟩ := h
    have dr : ∀ (n m : Int) (es : List (Option PyData)), 0 < n → n < 100 → Es K l (tOp (rI0 fun i j => .int (i - j)) (tCall (spS K R__law_draw) [] E0 (tCons (tVar 0) (tCons (tC (.int n)) tNil))) (tC (.int m))) es (PI fun r => -m ≤ r ∧ r < n - m) := fun n m es h0 h1 =>
      es_subI (es_callS (ea_cons ed_int ea_nil) ⟨n, rfl, h0, by omega, rfl⟩) ed_int fun a ha => by omega
    refine sk_par3 (sk_start hE hS g hσ hs) (eas_cons (dr 7 3 _ (by decide) (by decide)) (eas_cons (dr 7 3 _ (by decide) (by decide)) (eas_cons (dr 19 9 _ (by decide) (by decide)) eas_nil))) ⟨by decide, fun i ds e => nomatch e⟩ ⟨by decide, fun i ds e => nomatch e⟩ ⟨by decide, fun i ds e => nomatch e⟩ fun ds hds => ?_
    obtain ⟨d1, r1, rfl, ⟨a, rfl, ha⟩, d2, r2, rfl, ⟨b, rfl, hb⟩, d3, r3, rfl, ⟨h, rfl, hh⟩, rfl⟩ := hds
    refine ⟨_, _, _, rfl, fun σ1 H1 o1 => ?_⟩
    obtain ⟨a', ha', nz', e'⟩ : ∃ a' : Int, (-4 < a' ∧ a' < 4) ∧ ¬ (a' = 0 ∧ b = 0) ∧ a' = (if (!decide (b = 0) || !decide (a = 0)) = true then a else 2) := by
      refine ⟨_, ?_, ?_, rfl⟩
      · split <;> omega
      · split
        · rename_i h1
          simp at h1
          omega
        · omega
    refine sk_asg o1 (es_of (d := .int a') (ed_if (et_or (et_test (ed_neI ed_var ed_int)) fun _ => et_test (ed_neI ed_var ed_int)) (fun h => Ed.is ed_var (by rw [e', if_pos h])) (fun h => Ed.is ed_int (by rw [e', if_neg (by rw [h]; decide)])))) ⟨by decide, fun i ds e => nomatch e⟩ fun d σ2 H2 hd o2 => ?_
    subst hd
    have g0 : 0 < cdiv [a', b, h] ∧ cdiv [a', b, h] ≤ 30 := by
      rw [cdiv3]
      have h1 : 0 < Nat.gcd (Nat.gcd a'.natAbs b.natAbs) h.natAbs := by
        rcases Nat.eq_zero_or_pos (Nat.gcd (Nat.gcd a'.natAbs b.natAbs) h.natAbs) with e | e
        · rw [Nat.gcd_eq_zero_iff, Nat.gcd_eq_zero_iff] at e
          omega
        · exact e
      have h2 : Nat.gcd (Nat.gcd a'.natAbs b.natAbs) h.natAbs ≤ Nat.gcd a'.natAbs b.natAbs := by
        refine Nat.gcd_le_left _ ?_
        rcases Nat.eq_zero_or_pos (Nat.gcd a'.natAbs b.natAbs) with e | e
        · rw [Nat.gcd_eq_zero_iff] at e
          omega
        · exact e
      have h3 : Nat.gcd a'.natAbs b.natAbs ≤ 10 := by
        by_cases e : a' = 0
        · have := Nat.gcd_le_right (m := a'.natAbs) (n := b.natAbs) (by omega)
          omega
        · have := Nat.gcd_le_left (m := a'.natAbs) (n := b.natAbs) (by omega)
          omega
      omega
    have c : ∀ z, CDiv z (cdiv [a', b, h]) := fun z => ⟨g0.1, by omega⟩
    refine sk_asg o2 (es_of (d := .int (cdiv [a', b, h])) (Ed.is (ed_call (ea_cons (ed_call (ea_cons ed_var (ea_cons ed_var ea_nil)) ⟨a', b, rfl, rfl⟩) (ea_cons ed_var ea_nil)) ⟨_, h, rfl, rfl⟩) (by rw [cdiv3, Int.natAbs_natCast]))) ⟨by decide, fun i ds e => nomatch e⟩ fun d σ3 H3 hd o3 => ?_
    subst hd
    refine sk_ret o3 (es_of (d := dp (red3 a' b h)) (ed_tup (ea_cons (ed_fdiv ed_var ed_var (c _)) (ea_cons (ed_fdiv ed_var ed_var (c _)) (ea_cons (ed_fdiv ed_var ed_var (c _)) ea_nil))) (Nat.le_of_ble_eq_true rfl))) fun v d G' H' hd => ?_
    subst hd
    have d1 := abs_div a' (cdiv [a', b, h])
    have d2 := abs_div b (cdiv [a', b, h])
    have dv1 : (cdiv [a', b, h]) ∣ a' := by
      rw [cdiv3]
      exact Int.natAbs_dvd_natAbs.mp (by rw [Int.natAbs_natCast]; exact Nat.dvd_trans (Nat.gcd_dvd_left _ _) (Nat.gcd_dvd_left _ _))
    have dv2 : (cdiv [a', b, h]) ∣ b := by
      rw [cdiv3]
      exact Int.natAbs_dvd_natAbs.mp (by rw [Int.natAbs_natCast]; exact Nat.dvd_trans (Nat.gcd_dvd_left _ _) (Nat.gcd_dvd_right _ _))
    refine q v (dp (red3 a' b h)) G' H' ⟨red3 a' b h, rfl, ⟨⟨fun z => nz' ⟨?_, ?_⟩, cd_red3 nz'⟩, ⟨?_, ?_⟩⟩⟩
    · have := Int.ediv_mul_cancel dv1
      rw [show a' / cdiv [a', b, h] = 0 from z.1, Int.zero_mul] at this
      exact this.symm
    · have := Int.ediv_mul_cancel dv2
      rw [show b / cdiv [a', b, h] = 0 from z.2, Int.zero_mul] at this
      exact this.symm
    · show -4 < a' / cdiv [a', b, h] ∧ a' / cdiv [a', b, h] < 4
      omega
    · show -4 < b / cdiv [a', b, h] ∧ b / cdiv [a', b, h] < 4
      omega
end
end Wf
set_option Elab.async false
set_option linter.all false
set_option maxRecDepth 100000
set_option maxHeartbeats 4000000
/-! the sack, the boat -/
namespace Wf
open PySem PySem.Spec PyProof.Rows L2
local macro_rules | `(tactic| walk_at "mul") => `(tactic| ((try dsimp only); first | exact Or.inl (by omega) | exact Or.inr (by omega)))
local macro_rules | `(tactic| walk_at "ed") => `(tactic| first
  | exact ed_var
  | exact ed_int
  | exact ed_bl
  | exact ed_str
  | (apply ed_add <;> walk_at "ed")
  | (apply ed_sub <;> walk_at "ed")
  | (apply ed_mul <;> first | walk_at "ed" | walk_at "mul")
  | (apply ed_neg <;> walk_at "ed")
  | (apply ed_ixT <;> first | walk_at "ed" | rfl)
  | (apply ed_lt <;> walk_at "ed")
  | (apply ed_le <;> walk_at "ed")
  | (apply ed_gt <;> walk_at "ed")
  | (apply ed_ge <;> walk_at "ed")
  | (apply ed_eqI <;> walk_at "ed")
  | (apply ed_tup <;> first | walk_at "ea" | exact Nat.le_of_ble_eq_true rfl))
local macro_rules | `(tactic| walk_at "ea") => `(tactic| first
  | exact ea_nil
  | (apply ea_cons <;> first | walk_at "ed" | walk_at "ea"))
def stirF (s : Int) (e : Int) : Int := (s * 69069 + e % 2147483543 + 13) % 2147483543
def mny (ns : List Int) : Str := ""
theorem sk_raw {K : PySem.W.Frag} {ta : TA} {es : List (Option PyData)} {ds : List PyData} {σ : L2.St} {G H : Hp} {D : Ends} (h : Ea K ta es ds) (hE : En K G σ es) (hS : Same G H) (k : ∀ vs G' H', Nw none G H G' H' → DpAll K G' vs ds → vs.length ≤ sizeLine ∧ ∀ p, H' p = none → D.rt (.ref p) (upd H' p (.lst vs))) : tRet (tLst ta) D σ H := h σ G H hE hS _ k
section
variable {K : PySem.W.Frag} {l : Addr} {es es1 : List (Option PyData)} {tt : TT} {t u : TS} {G0 H0 : Hp} {ow : Option (Nat × List PyData)} {σ : L2.St} {H : Hp} {D : Ends}
theorem sk_ifB {p : Bool} (o : SkS K l G0 H0 ow es σ H) (h : Et K tt es p) (C : L2.St → Hp → Prop) (k : ∀ σ' H', C σ' H' → D.nx σ' H') (k1 : p = true → ∀ D' H', (∀ σ H, C σ H → D'.nx σ H) → SkS K l G0 H0 ow es σ H' → t D' σ H') (k2 : p = false → ∀ D' H', (∀ σ H, C σ H → D'.nx σ H) → SkS K l G0 H0 ow es σ H' → u D' σ H') : tIfS tt t u D σ H :=
  sk_if o h (fun e H' o' => k1 e D H' k o') (fun e H' o' => k2 e D H' k o')
theorem off_none {j : Nat} (h : j ≠ 0 := by decide) : Off none j := ⟨h, fun i ds e => nomatch e⟩
end
def nE9 (L : List Pt) (br : Int) : List (Option PyData) := [none, some (.list (L.map dq)), some (.int br), none, none, none, none, none, none]
structure DotsOk (L : List Pt) : Prop where
  s : ∀ q ∈ L, Sm8 q
  z : ((0, 0) : Pt) ∈ L
  n : L.length < 12
theorem gName_go {j : Nat} {v : V} {σ : L2.St} {H : Hp} {Q : L2.St → Hp → Prop} (h : Q (σ.set j (some v)) H) : gName j v σ H Q := h
theorem sk_nm {K : PySem.W.Frag} {l : Addr} {es : List (Option PyData)} {G0 H0 : Hp} {ow : Option (Nat × List PyData)} {σ : L2.St} {H : Hp} {j : Nat} {v : V} {d : PyData} (o : SkS K l G0 H0 ow es σ H) (hj : Off ow j) (hv : ∀ G, Dp K G v d) : SkS K l G0 H0 ow (es.set j (some d)) (σ.set j (some v)) H := by
  obtain ⟨G, n, hE, hσ, s, g, ho⟩ := o
  refine ⟨G, n, hE.set j (hv G), by rw [List.getElem?_set_ne hj.1]; exact hσ, s, g, fun i ds e => ?_⟩
  obtain ⟨p, xs, h1, h2, h3, h4, h5, h6⟩ := ho i ds e
  exact ⟨p, xs, h1, h2, h3, h4, h5, by rw [List.getElem?_set_ne (hj.2 i ds e)]; exact h6⟩
theorem enle_none {es es1 : List (Option PyData)} (h : ∀ (i : Nat) (d : PyData), es1[i]? = some (some d) → es[i]? = some (some d)) (hl : es.length = es1.length) : EnLe es es1 := ⟨hl, h⟩
theorem enle_dec : ∀ (es es1 : List (Option PyData)), (es.length = es1.length ∧ ∀ i, (h : i < es1.length) → es1[i] = none ∨ es[i]? = some es1[i]) → EnLe es es1 := fun es es1 h => ⟨h.1, fun i d e => by
  have hi : i < es1.length := (List.getElem?_eq_some_iff.mp e).1
  have e2 : es1[i] = some d := (List.getElem?_eq_some_iff.mp e).2
  rcases h.2 i hi with z | z
  · rw [z] at e2; cases e2
  · rw [z, e2]⟩
theorem enle_cons {x y : Option PyData} {es es1 : List (Option PyData)} (h : y = none ∨ x = y) (t : EnLe es es1) : EnLe (x :: es) (y :: es1) := ⟨by rw [List.length_cons, List.length_cons, t.1], fun i d e => by
  cases i with
  | zero =>
    rcases h with z | z
    · rw [z] at e; cases e
    · rw [z]; exact e
  | succ i => exact t.2 i d e⟩
theorem enle_nil : EnLe [] [] := ⟨rfl, fun i d e => by cases i <;> cases e⟩
section
variable {P : Program} {w : World} {K : PySem.W.Frag} {mg : Str → Option Value} {base : Heap} (T : Blt K mg)
include T
theorem ok__law_sack (D : DefOk K mg "_law_sack" s__law_sack p__law_sack)  : OkF P w K mg base 1 "_law_sack" s__law_sack p__law_sack (spK K) := by
  refine ok_sp D c__law_sack (fun vs H Q E h => ?_) (fun cdv A outer s H0 E hr => ⟨_, (pss_cons (ps_set (i := 2) c__law_sack.nd rfl (by first | exact Or.inl rfl | exact Or.inr rfl) (pe_ifExp (pt_cmpR op_lt (pv 1) (pe_callB call_len_seq (by rfl) T.len bb_len (pa_cons (pv 0) pa_nil)) (nomark _)) (pe_callTy call_int1 (by rfl) T.int bb_int (pa_cons (pe_ix ix_list (pv 0) (pv 1) (fun _ _ => rfl)) pa_nil)) (pe_op op_add (pe_op op_mul pe_int (pv 1)) pe_int)))
    (pss_cons (ps_set (i := 3) c__law_sack.nd rfl (by first | exact Or.inl rfl | exact Or.inr rfl) (pe_op op_add pe_int (pe_op op_mul pe_int (pv 1))))
    (pss_cons (ps_for PassesOwn.never rfl (pi_list (pe_op op_catL (pe_callTy call_list_of (by rfl) T.list bb_list (pa_cons (pe_slice sl_list (pv 0) po_none (po_some pe_int)) pa_nil)) (pe_lst (pa_cons (pv 2) pa_nil)))) (pg_name (i := 4) c__law_sack.nd rfl (by first | exact Or.inl rfl | exact Or.inr rfl)) (pss_one (ps_set (i := 3) c__law_sack.nd rfl (by first | exact Or.inl rfl | exact Or.inr rfl) (pe_op op_mod (pe_callTy call_int1 (by rfl) T.int bb_int (pa_cons (pe_op op_add (pe_op op_add (pe_op op_mul (pv 3) pe_int) (pe_op op_mod (pe_callTy call_int1 (by rfl) T.int bb_int (pa_cons (pv 4) pa_nil)) pe_int)) pe_int) pa_nil)) pe_int))))
    (pss_one (ps_ret (pe_lst (pa_cons (pe_ifExp (PW.pt (pw_or (pt_cmpR op_lt (pv 2) pe_int (nomark _)) (pw_or1 (pt_cmpR op_ge (pv 2) (pe_op op_pow pe_int pe_int) (nomark _))))) (pe_callB call_abs (by rfl) T.abs bb_abs (pa_cons (pv 2) pa_nil)) pe_int) (pa_cons (pv 3) (pa_cons pe_int pa_nil))))))))), fun vs H Q E' h => ?_⟩)
  · obtain ⟨a, ns, t, rfl, _⟩ := h; rfl
  · obtain ⟨a, ns, t, rfl, hq, hn, t0, t1, q⟩ := h
    have hE : En K H (L2.start n__law_sack [.ref a, .int t]) (sEnv n__law_sack [.list (ns.map PyData.int), .int t]) := dps_env (.cons (.lst hq (ints_dps ns)) (.cons (.int t) .nil))
    obtain ⟨cell, hc⟩ : ∃ cell : Int, cell = (if decide (t < (ns.length : Int)) = true then ns.getD t.toNat 0 else 7919 * t + 101) := ⟨_, rfl⟩
    have key : ∀ D : Ends, (∀ σ' G' H' s', Nw none H H G' H' → En K G' σ' [some (.list (ns.map PyData.int)), some (.int t), some (.int cell), some (.int s'), none] → D.nx σ' H') → ∃ n, True := fun _ _ => ⟨0, trivial⟩
    refine (sn_asg (i := 2) (d := .int cell) (ed_if (et_test (ed_lt ed_var (ed_lenL ed_var (by rw [List.length_map])))) (fun h => ?_) (fun h => ?_))) _ H H _ hE (Same.refl H) fun σ1 G1 H1 n1 hE1 => ?_
    · refine Ed.is (ed_int1 (ed_ixL (a := t) (d := .int (ns.getD t.toNat 0)) ed_var ed_var ?_)) (by rw [hc, if_pos h])
      have h' := of_decide_eq_true h
      have hi : t.toNat < ns.length := by omega
      have e : ((t.toNat : Nat) : Int) = t := by omega
      have z : atI (ns.map PyData.int) ((t.toNat : Nat) : Int) = some (.int (ns.getD t.toNat 0)) := atI_nat (by rw [List.getElem?_map, List.getElem?_eq_getElem hi, List.getD_eq_getElem?_getD, List.getElem?_eq_getElem hi]; rfl)
      exact e ▸ z
    · exact Ed.is (ed_add (ed_mul ed_int ed_var (.inl (by decide))) ed_int) (by rw [hc, if_neg (by rw [h]; exact Bool.false_ne_true)])
    · refine dr_seq ((sn_asg (i := 3) (d := .int (30011 + 1709 * t)) (ed_add ed_int (ed_mul ed_int ed_var (.inl (by decide))))) _ G1 H1 _ hE1 n1.s fun σ2 G2 H2 n2 hE2 => ?_)
      have ec : cutD (ns.map PyData.int) none (some 7) = (ns.take 7).map PyData.int := by
        have e7 : HT.sIx (ns.map PyData.int).length (ns.map PyData.int).length (some 7) = min 7 (ns.map PyData.int).length := HT.sIx_nat _ _ 7
        unfold cutD
        rw [HT.sIx_none, List.drop_zero, e7, Nat.sub_zero, List.map_take]
        exact List.take_eq_take_iff.mpr (by omega)
      refine dr_seq ((sn_forL (ds := ((ns.take 7 ++ [cell]).map PyData.int)) (fun i => [some (.list (ns.map PyData.int)), some (.int t), some (.int cell), some (.int (((ns.take 7 ++ [cell]).take i).foldl stirF (30011 + 1709 * t))), none]) (Ed.is (ed_cat (ed_cb (ea_cons (Ed.is (ed_slL ed_var eo_none (eo_some ed_int)) (congrArg PyData.list ec)) ea_nil) bc_listL) (ed_lst (ea_cons ed_var ea_nil) (Nat.le_of_ble_eq_true rfl)) (by simp; omega)) (by rw [List.map_append]; rfl)) enle_refl fun i d hi => ?_) _ G2 H2 _ hE2 n2.s fun σ3 G3 H3 n3 hE3 => ?_)
      · rw [List.getElem?_map] at hi
        cases e : (ns.take 7 ++ [cell])[i]? with
        | none => rw [e] at hi; cases hi
        | some m =>
          rw [e] at hi
          cases hi
          refine ⟨_, gn_name, sn_le (sn_asg (ed_mod (ed_int1 (ed_add (ed_add (ed_mul ed_var ed_int (.inr (by decide))) (ed_mod (ed_int1 ed_var) ed_int (by decide))) ed_int)) ed_int (by decide))) ⟨rfl, fun j d q => ?_⟩⟩
          have en : ((ns.take 7 ++ [cell]).take (i + 1)).foldl stirF (30011 + 1709 * t) = stirF (((ns.take 7 ++ [cell]).take i).foldl stirF (30011 + 1709 * t)) m := by
            rw [List.take_add_one, e, List.foldl_append]
            rfl
          match j, q with
          | 0, q => exact q
          | 1, q => exact q
          | 2, q => exact q
          | 3, q => rw [en] at q; exact q
          | 4, q => cases q
      · generalize ((ns.take 7 ++ [cell]).take ((ns.take 7 ++ [cell]).map PyData.int).length).foldl stirF (30011 + 1709 * t) = st at hE3
        have n13 := (n1.trans n2).trans n3
        obtain ⟨c, hcc⟩ : ∃ c : Int, c = (if (decide (cell < 0) || decide ((10 : Int) ^ (18 : Int).toNat ≤ cell)) = true then (if cell < 0 then -cell else cell) else 0) := ⟨_, rfl⟩
        have e1 : Ed K _ [some (.list (ns.map PyData.int)), some (.int t), some (.int cell), some (.int st), none] (.int c) := ed_if (et_or (et_test (ed_lt (ed_var (i := 2)) (ed_int (a := 0)))) fun _ => et_test (ed_ge (ed_var (i := 2)) (ed_pow (ed_int (a := 10)) (ed_int (a := 18)) ⟨by decide, by decide, by decide⟩))) (fun h => Ed.is (ed_abs (ed_var (i := 2))) (by rw [hcc, if_pos h])) (fun h => Ed.is (ed_int (a := 0)) (by rw [hcc, if_neg (by rw [h]; exact Bool.false_ne_true)]))
        have e2 : Ea K _ _ [.int c, .int st, .int 0] := ea_cons e1 (ea_cons (ed_var (i := 3)) (ea_cons (ed_int (a := 0)) ea_nil))
        refine sk_raw e2 hE3 n3.s fun vs G4 H4 n4 dv => ?_
        have e3 : vs = [.int c, .int st, .int 0] := dps_ints (ns := [c, st, 0]) dv
        subst e3
        refine ⟨Nat.le_of_ble_eq_true rfl, fun p hp => ?_⟩
        have nn := n13.trans n4
        exact q p _ (nn.free hp) (nn.keep.trans (same_new hp)) ⟨c, st, 0, upd_same⟩
theorem ok__law_boat (D : DefOk K mg "_law_boat" s__law_boat p__law_boat) (o__law_draw : OkF P w K mg base 1 "_law_draw" s__law_draw p__law_draw (spS K R__law_draw)) (o__law_rim : OkF P w K mg base 3 "_law_rim" s__law_rim p__law_rim (spD K R__law_rim)) (o__law_one : OkF P w K mg base 2 "_law_one" s__law_one p__law_one (spS K R__law_one)) : OkF P w K mg base 4 "_law_boat" s__law_boat p__law_boat (spS K R__law_boat) := by
  refine ok_ofS D c__law_boat (fun ds PP h => ?_) (fun cdv A outer s H0 E hr => ⟨_, (pss_cons (ps_par (i := 1) (j := 2) rfl c__law_boat.nd rfl rfl (by decide) rfl rfl (pa_cons (pe_lst (pa_cons (pe_tup (pa_cons pe_int (pa_cons pe_int pa_nil))) pa_nil)) (pa_cons (pe_own o__law_draw (hr.mono (by decide)) (by rfl) (pa_cons (pv 0) (pa_cons pe_int pa_nil))) pa_nil)) (by rfl))
    (pss_cons (ps_for PassesOwn.never rfl (pi_range1 (by rfl) T.range (pa_cons (pe_op op_add pe_int (pe_own o__law_draw (hr.mono (by decide)) (by rfl) (pa_cons (pv 0) (pa_cons pe_int pa_nil)))) pa_nil)) (pg_name (i := 3) c__law_boat.nd rfl (by first | exact Or.inl rfl | exact Or.inr rfl)) (pss_one (ps_expr (pe_bm PySem.F.plainAttrs_list PySem.F.slot_list_append PySem.F.type_list_append mt_append (pv 1) (pa_cons (pe_tup (pa_cons (pe_op op_sub (pe_own o__law_draw (hr.mono (by decide)) (by rfl) (pa_cons (pv 0) (pa_cons pe_int pa_nil))) pe_int) (pa_cons (pe_op op_sub (pe_own o__law_draw (hr.mono (by decide)) (by rfl) (pa_cons (pv 0) (pa_cons pe_int pa_nil))) pe_int) pa_nil))) pa_nil)))))
    (pss_cons (ps_if (pt_cmpR op_lt (pv 2) pe_int (nomark _)) (pss_one (ps_set (i := 1) c__law_boat.nd rfl (by first | exact Or.inl rfl | exact Or.inr rfl) (pe_op op_catL (pv 1) (pe_lst (pa_cons (pe_tup (pa_cons (pe_op op_add pe_int (pv 2)) (pa_cons pe_int pa_nil))) (pa_cons (pe_tup (pa_cons (pe_op op_sub pe_int (pv 2)) (pa_cons pe_int pa_nil))) (pa_cons (pe_tup (pa_cons (pe_un un_neg pe_int) (pa_cons (pe_un un_neg pe_int) pa_nil))) pa_nil))))))) (pss_one (ps_if (pt_cmpR op_eq (pv 2) pe_int (nomark _)) (pss_cons (ps_asg (pe_tup (pa_cons (pe_own o__law_one (hr.mono (by decide)) (by rfl) (pa_cons (pv 0) (pa_cons (pe_tup (pa_cons pe_int (pa_cons (pe_un un_neg pe_int) pa_nil))) pa_nil))) (pa_cons (pe_own o__law_one (hr.mono (by decide)) (by rfl) (pa_cons (pv 0) (pa_cons (pe_tup (pa_cons pe_int (pa_cons (pe_un un_neg pe_int) pa_nil))) pa_nil))) pa_nil))) (pg_tup rfl (pgs_cons (pg_name (i := 4) c__law_boat.nd rfl (by first | exact Or.inl rfl | exact Or.inr rfl)) (pgs_cons (pg_name (i := 5) c__law_boat.nd rfl (by first | exact Or.inl rfl | exact Or.inr rfl)) pgs_nil))))
    (pss_one (ps_set (i := 1) c__law_boat.nd rfl (by first | exact Or.inl rfl | exact Or.inr rfl) (pe_op op_catL (pe_lc (own := [("_law_x", 7), ("_law_y", 8)]) (g := gTup K 2 (gCons (gName 7) (gCons (gName 8) (gNil)))) (tt := tYes) rfl c__law_boat.nd (pi_list (pv 1)) (blkOk_by (N := n__law_boat) (sc := defScope s__law_boat) (by decide +kernel)) (fun _ _ _ _ _ => (pg_tup rfl (pgs_cons (pg_name (i := 7) c__law_boat.nd rfl (by first | exact Or.inl rfl | exact Or.inr rfl)) (pgs_cons (pg_name (i := 8) c__law_boat.nd rfl (by first | exact Or.inl rfl | exact Or.inr rfl)) pgs_nil)))) (fun _ _ _ _ _ => pts_nil) (fun _ _ _ _ _ => (pe_tup (pa_cons (pe_op op_mul (pv 4) (pe_callB call_abs (by rfl) T.abs bb_abs (pa_cons (pv 7) pa_nil))) (pa_cons (pe_op op_mul (pv 5) (pe_callB call_abs (by rfl) T.abs bb_abs (pa_cons (pv 8) pa_nil))) pa_nil))))) (pe_lst (pa_cons (pe_tup (pa_cons (pv 4) (pa_cons pe_int pa_nil))) (pa_cons (pe_tup (pa_cons (pv 4) (pa_cons (pe_op op_mul pe_int (pv 5)) pa_nil))) pa_nil))))))) pss_nil)))
    (pss_cons (ps_set (i := 6) c__law_boat.nd rfl (by first | exact Or.inl rfl | exact Or.inr rfl) (pe_own o__law_rim (hr.mono (by decide)) (by rfl) (pa_cons (pv 1) pa_nil)))
    (pss_cons (ps_if (pt_cmpR op_lt (pe_callB call_len_seq (by rfl) T.len bb_len (pa_cons (pv 6) pa_nil)) pe_int (nomark _)) (pss_one (ps_set (i := 6) c__law_boat.nd rfl (by first | exact Or.inl rfl | exact Or.inr rfl) (pe_own o__law_rim (hr.mono (by decide)) (by rfl) (pa_cons (pe_op op_catL (pv 1) (pe_lst (pa_cons (pe_tup (pa_cons pe_int (pa_cons pe_int pa_nil))) (pa_cons (pe_tup (pa_cons pe_int (pa_cons (pe_un un_neg pe_int) pa_nil))) pa_nil)))) pa_nil)))) pss_nil)
    (pss_one (ps_ret (pe_lst (pa_cons (pv 6) (pa_cons (pe_op op_add pe_int (pe_own o__law_draw (hr.mono (by decide)) (by rfl) (pa_cons (pv 0) (pa_cons pe_int pa_nil)))) pa_nil)))))))))), fun ds PP h l σ G H D hE hS g hσ hs q => ?_⟩)
  · obtain ⟨rfl, _⟩ := h; rfl
  · obtain ⟨rfl, rfl⟩ := h
    have dr : ∀ (n : Int) (es : List (Option PyData)), 0 < n → n < 100 → Es K l (tCall (spS K R__law_draw) [] E0 (tCons (tVar 0) (tCons (tC (.int n)) tNil))) es (PI fun r => 0 ≤ r ∧ r < n) := fun n es h0 h1 => es_callS (ea_cons ed_int ea_nil) ⟨n, rfl, h0, by omega, rfl⟩
    have dr4 : ∀ (es : List (Option PyData)), Es K l (tOp (rI0 fun i j => .int (i - j)) (tCall (spS K R__law_draw) [] E0 (tCons (tVar 0) (tCons (tC (.int 9)) tNil))) (tC (.int 4))) es (PI fun r => -4 ≤ r ∧ r < 5) := fun es => es_subI (dr 9 es (by decide) (by decide)) ed_int fun a ha => by omega
    refine dr_seq (sk_openP (sk_start hE hS g hσ hs) (ea_cons (d := dq (0, 0)) (ed_tup (ea_cons ed_int (ea_cons ed_int ea_nil)) (Nat.le_of_ble_eq_true rfl)) ea_nil) (Nat.le_of_ble_eq_true rfl) (dr 5 _ (by decide) (by decide)) (by decide) (by decide) (by decide) (Nat.le_of_ble_eq_true rfl) fun d σ1 H1 hd o1 => ?_)
    obtain ⟨br, rfl, b0, b1⟩ := hd
    refine dr_seq (sk_forR o1 (eas_cons (es_addI (C := fun r => 1 ≤ r ∧ r < 4) ed_int (dr 3 _ (by decide) (by decide)) fun b hb => by omega) eas_nil) (fun ds hds => ?_) (fun i σ' H' => ∃ L : List Pt, (∀ q ∈ L, (-4 ≤ q.1 ∧ q.1 < 5) ∧ (-4 ≤ q.2 ∧ q.2 < 5)) ∧ ((0, 0) : Pt) ∈ L ∧ L.length = 1 + i ∧ SkS K l G H (some (1, L.map dq)) [none, none, some (.int br), none, none, none, none, none, none] σ' H') (fun H' o' => ⟨[(0, 0)], fun q hq => by rw [List.mem_singleton.mp hq]; exact ⟨⟨by decide, by decide⟩, ⟨by decide, by decide⟩⟩, List.mem_singleton.mpr rfl, rfl, o'⟩) (fun i σ' H' N hi hI kN => ?_) (fun ds n σ' H' hds hn hI => ?_))
    · obtain ⟨d, ds', rfl, ⟨a, rfl, ha⟩, rfl⟩ := hds
      exact ⟨a.toNat, by rw [Int.toNat_of_nonneg (by omega)], by omega⟩
    · obtain ⟨L, hs8, hz, hl, o2⟩ := hI
      refine gName_go ?_
      have o3 := sk_nm (j := 3) (d := .int (i : Int)) o2 ⟨by decide, fun i ds e => by cases e; decide⟩ fun G => .int _
      refine sk_app o3 (es_tup (eas_cons (dr4 _) (eas_cons (dr4 _) eas_nil)) fun ds hds => ?_) (by rw [List.length_map]; omega) fun d H3 hd o4 => ?_
      · obtain ⟨d1, r1, rfl, _, d2, r2, rfl, _, rfl⟩ := hds
        exact Nat.le_of_ble_eq_true rfl
      · obtain ⟨_, rfl, d1, r1, rfl, ⟨x, rfl, hx⟩, d2, r2, rfl, ⟨y, rfl, hy⟩, rfl⟩ := hd
        refine kN _ _ ⟨L ++ [(x, y)], fun q hq => ?_, List.mem_append_left _ hz, by rw [List.length_append, hl, List.length_singleton]; omega, ?_⟩
        · rcases List.mem_append.mp hq with z | z
          · exact hs8 q z
          · rw [List.mem_singleton.mp z]; exact ⟨hx, hy⟩
        · rw [List.map_append]
          exact sk_le o4 (enle_cons (.inl rfl) (enle_cons (.inl rfl) (enle_cons (.inr rfl) (enle_cons (.inl rfl) (enle_cons (.inl rfl) (enle_cons (.inl rfl) (enle_cons (.inl rfl) (enle_cons (.inl rfl) (enle_cons (.inl rfl) enle_nil)))))))))
    · obtain ⟨d, ds', rfl, ⟨a, rfl, ha⟩, rfl⟩ := hds
      cases hn
      obtain ⟨L, hs8, hz, hl, o2⟩ := hI
      have o3 : SkS K l G H none (nE9 L br) σ' H' := sk_shut o2 (Nat.le_of_ble_eq_true rfl)
      have hl5 : L.length ≤ 4 := by omega
      refine dr_seq (sk_ifB (p := decide (br < 2)) o3 (et_test (ed_lt (ed_var (i := 2)) ed_int)) (fun σ H' => ∃ L : List Pt, DotsOk L ∧ SkS K l G H none (nE9 L br) σ H') (fun σ4 H4 hC => ?_) (fun hb D' H4 k o4 => ?_) (fun hb D' H4 k o4 => ?_))
      rotate_left
      · have hb' := of_decide_eq_true hb
        refine sk_asg o4 (es_of (d := .list ((L ++ [(1 + br, 0), (0 - br, 1), (-1, -1)]).map dq)) (Ed.is (ed_cat (ed_var (i := 1)) (ed_lst (ea_cons (ed_tup (ea_cons (ed_add ed_int (ed_var (i := 2))) (ea_cons ed_int ea_nil)) (Nat.le_of_ble_eq_true rfl)) (ea_cons (ed_tup (ea_cons (ed_sub ed_int (ed_var (i := 2))) (ea_cons ed_int ea_nil)) (Nat.le_of_ble_eq_true rfl)) (ea_cons (ed_tup (ea_cons (ed_neg ed_int) (ea_cons (ed_neg ed_int) ea_nil)) (Nat.le_of_ble_eq_true rfl)) ea_nil))) (Nat.le_of_ble_eq_true rfl)) (by rw [List.length_map]; show L.length + 3 ≤ 100000; omega)) (by rw [List.map_append]; rfl))) off_none fun d σ5 H5 hd o5 => ?_
        subst hd
        refine k _ _ ⟨_, ⟨fun q hq => ?_, List.mem_append_left _ hz, by rw [List.length_append]; show L.length + 3 < 12; omega⟩, o5⟩
        rcases List.mem_append.mp hq with z | z
        · have := hs8 q z
          unfold Sm8
          omega
        · simp only [List.mem_cons, List.not_mem_nil, or_false] at z
          unfold Sm8
          rcases z with z | z | z <;> rw [z] <;> dsimp only <;> omega
      · refine sk_ifB (p := decide (br = 2)) o4 (et_test (ed_eqI (ed_var (i := 2)) ed_int)) (fun σ H' => ∃ L : List Pt, DotsOk L ∧ SkS K l G H none (nE9 L br) σ H') k (fun hb D' H5 k o5 => ?_) (fun hb D' H5 k o5 => ?_)
        · have one : ∀ es, Es K l (tCall (spS K R__law_one) [] E0 (tCons (tVar 0) (tCons (tTup (tCons (tC (.int 1)) (tCons (tUn (rU fun i => .int (-i)) (tC (.int 1))) tNil))) tNil))) es (PI fun r => r = 1 ∨ r = -1) := fun es => es_le (es_callS (ea_cons (ed_tup (ea_cons ed_int (ea_cons (ed_neg ed_int) ea_nil)) (Nat.le_of_ble_eq_true rfl)) ea_nil) ⟨[.int 1, .int (-1)], .inr rfl, by decide, by decide, rfl⟩) fun d hd => by
            simp only [List.mem_cons, List.not_mem_nil, or_false] at hd
            rcases hd with z | z
            · exact ⟨1, z, .inl rfl⟩
            · exact ⟨-1, z, .inr rfl⟩
          refine dr_seq (sk_asgG (vs := [4, 5]) o5 (es_tup (eas_cons (one _) (eas_cons (one _) eas_nil)) fun ds hds => ?_) (by decide) (fun j ds e => nomatch e) fun d hd => ?_)
          · obtain ⟨d1, r1, rfl, _, d2, r2, rfl, _, rfl⟩ := hds
            exact Nat.le_of_ble_eq_true rfl
          · obtain ⟨_, rfl, d1, r1, rfl, ⟨wi, rfl, hwi⟩, d2, r2, rfl, ⟨hi, rfl, hhi⟩, rfl⟩ := hd
            refine ⟨_, gd_tup (gs_cons (gd_in (by decide)) (gs_cons (gd_in (by decide)) gs_nil)), fun σ6 H6 o6 => ?_⟩
            refine sk_asg o6 (es_of (d := .list ((L.map (fun q : Pt => ((wi * (q.1.natAbs : Int), hi * (q.2.natAbs : Int)) : Pt)) ++ [(wi, 0), (wi, 2 * hi)]).map dq)) (Ed.is (ed_cat (ed_lcL (ds := L.map dq) (onq fun x y => dq (wi * (x.natAbs : Int), hi * (y.natAbs : Int))) ed_var (by rw [List.length_map]; omega) fun d hd => ?_) (ed_lst (ea_cons (ed_tup (ea_cons (ed_var (i := 4)) (ea_cons ed_int ea_nil)) (Nat.le_of_ble_eq_true rfl)) (ea_cons (ed_tup (ea_cons (ed_var (i := 4)) (ea_cons (ed_mul ed_int (ed_var (i := 5)) (.inl (by decide))) ea_nil)) (Nat.le_of_ble_eq_true rfl)) ea_nil)) (Nat.le_of_ble_eq_true rfl)) (by rw [List.length_map, List.length_map]; show L.length + 2 ≤ 100000; omega)) ?_)) off_none fun d σ7 H7 hd o7 => ?_
            · obtain ⟨p, hp, rfl⟩ := List.mem_map.mp hd
              refine ⟨_, gd_tup (gs_cons (gd_in (by decide)) (gs_cons (gd_in (by decide)) gs_nil)), ed_tup (ea_cons (ed_mul (ed_var (i := 4)) (Ed.is (ed_abs (ed_var (i := 7))) (congrArg PyData.int (abs_nat _))) (.inl (by omega))) (ea_cons (ed_mul (ed_var (i := 5)) (Ed.is (ed_abs (ed_var (i := 8))) (congrArg PyData.int (abs_nat _))) (.inl (by omega))) ea_nil)) (Nat.le_of_ble_eq_true rfl)⟩
            · rw [List.map_append, List.map_map, List.map_map]; rfl
            · subst hd
              refine k _ _ ⟨_, ⟨fun q hq => ?_, List.mem_append_left _ (List.mem_map.mpr ⟨(0, 0), hz, ?_⟩), by rw [List.length_append, List.length_map]; show L.length + 2 < 12; omega⟩, sk_le o7 (enle_cons (.inl rfl) (enle_cons (.inr rfl) (enle_cons (.inr rfl) (enle_cons (.inl rfl) (enle_cons (.inl rfl) (enle_cons (.inl rfl) (enle_cons (.inl rfl) (enle_cons (.inl rfl) (enle_cons (.inl rfl) enle_nil)))))))))⟩
              · rcases List.mem_append.mp hq with z | z
                · obtain ⟨p, hp, rfl⟩ := List.mem_map.mp z
                  have := hs8 p hp
                  unfold Sm8
                  dsimp only
                  rcases hwi with rfl | rfl <;> rcases hhi with rfl | rfl <;> omega
                · simp only [List.mem_cons, List.not_mem_nil, or_false] at z
                  unfold Sm8
                  rcases z with z | z <;> rw [z] <;> dsimp only <;> omega
              · show ((wi * 0, hi * 0) : Pt) = (0, 0)
                rw [Int.mul_zero, Int.mul_zero]
        · exact k _ _ ⟨L, ⟨fun q hq => by have := hs8 q hq; unfold Sm8; omega, hz, by omega⟩, o5⟩
      · obtain ⟨L2, hL2, o4⟩ := hC
        have sm20 : ∀ q : Pt, Sm8 q → Sm q.1 q.2 := fun q h => by unfold Sm8 at h; unfold Sm; omega
        have n12 := hL2.n
        refine dr_seq (sk_asg o4 (es_of (ed_call (ea_cons (ed_var (i := 1)) ea_nil) ⟨L2, rfl, by omega, fun q hq => sm20 q (hL2.s q hq), rfl⟩)) off_none fun d σ5 H5 hd o5 => ?_)
        subst hd
        refine dr_seq (sk_ifB (p := decide (((lrim L2).length : Int) < 3)) o5 (et_test (ed_lt (ed_lenL (ed_var (i := 6)) (by rw [List.length_map])) ed_int)) (fun σ H' => ∃ rim : List Pt, (∃ dots : List Pt, rim = lrim dots ∧ (∀ q ∈ dots, Sm8 q) ∧ ((0, 0) : Pt) ∈ dots ∧ dots.length < 20) ∧ 3 ≤ rim.length ∧ SkS K l G H none [none, none, none, none, none, none, some (.list (rim.map dq)), none, none] σ H') (fun σ6 H6 hC => ?_) (fun hb D' H6 k o6 => ?_) (fun hb D' H6 k o6 => ?_))
        · obtain ⟨rim, hrim, h3, o6⟩ := hC
          refine sk_ret o6 (es_lst (eas_cons (es_of (ed_var (i := 6))) (eas_cons (es_addI (C := fun r => 1 ≤ r ∧ r < 4) ed_int (dr 3 _ (by decide) (by decide)) fun b hb => by omega) eas_nil)) fun ds hds => ?_) fun v d G' H' hd => ?_
          · obtain ⟨d1, r1, rfl, _, d2, r2, rfl, _, rfl⟩ := hds
            exact Nat.le_of_ble_eq_true rfl
          · obtain ⟨_, rfl, d1, r1, rfl, rfl, d2, r2, rfl, ⟨k, rfl, hk⟩, rfl⟩ := hd
            exact q v _ G' H' ⟨rim, k, rfl, ⟨hrim, h3, by omega⟩⟩
        · refine sk_asg o6 (es_of (ed_call (ea_cons (Ed.is (d1 := .list ((L2 ++ [(1, 2), (2, -1)]).map dq)) (ed_cat (ed_var (i := 1)) (ed_lst (ea_cons (ed_tup (ea_cons ed_int (ea_cons ed_int ea_nil)) (Nat.le_of_ble_eq_true rfl)) (ea_cons (ed_tup (ea_cons ed_int (ea_cons (ed_neg ed_int) ea_nil)) (Nat.le_of_ble_eq_true rfl)) ea_nil)) (Nat.le_of_ble_eq_true rfl)) (by rw [List.length_map]; show L2.length + 2 ≤ 100000; omega)) (by rw [List.map_append]; rfl)) ea_nil) ⟨L2 ++ [(1, 2), (2, -1)], rfl, by rw [List.length_append]; show L2.length + 2 < 63; omega, fun q hq => ?_, rfl⟩)) off_none fun d σ7 H7 hd o7 => ?_
          · rcases List.mem_append.mp hq with z | z
            · exact sm20 q (hL2.s q z)
            · simp only [List.mem_cons, List.not_mem_nil, or_false] at z
              unfold Sm
              rcases z with z | z <;> rw [z] <;> decide
          · subst hd
            refine k _ _ ⟨_, ⟨_, rfl, fun q hq => ?_, List.mem_append_left _ hL2.z, by rw [List.length_append]; show L2.length + 2 < 20; omega⟩, rim3 (List.mem_append_left _ hL2.z) (List.mem_append_right _ (by simp)) (List.mem_append_right _ (by simp)), sk_le o7 (enle_cons (.inl rfl) (enle_cons (.inl rfl) (enle_cons (.inl rfl) (enle_cons (.inl rfl) (enle_cons (.inl rfl) (enle_cons (.inl rfl) (enle_cons (.inr rfl) (enle_cons (.inl rfl) (enle_cons (.inl rfl) enle_nil)))))))))⟩
            rcases List.mem_append.mp hq with z | z
            · exact hL2.s q z
            · simp only [List.mem_cons, List.not_mem_nil, or_false] at z
              unfold Sm8
              rcases z with z | z <;> rw [z] <;> decide
        · have hb' := of_decide_eq_false hb
          exact k _ _ ⟨_, ⟨L2, rfl, hL2.s, hL2.z, by omega⟩, by omega, sk_le o6 (enle_cons (.inl rfl) (enle_cons (.inl rfl) (enle_cons (.inl rfl) (enle_cons (.inl rfl) (enle_cons (.inl rfl) (enle_cons (.inl rfl) (enle_cons (.inr rfl) (enle_cons (.inl rfl) (enle_cons (.inl rfl) enle_nil)))))))))⟩
end
end Wf
set_option Elab.async false
set_option linter.all false
set_option maxRecDepth 100000
set_option maxHeartbeats 4000000
/-! the law -/
namespace Wf
open PySem PySem.Spec PyProof.Rows L2
local macro_rules | `(tactic| walk_at "mul") => `(tactic| ((try dsimp only); first | exact Or.inl (by omega) | exact Or.inr (by omega)))
local macro_rules | `(tactic| walk_at "ed") => `(tactic| first
  | exact ed_var
  | exact ed_int
  | exact ed_bl
  | exact ed_str
  | (apply ed_add <;> walk_at "ed")
  | (apply ed_sub <;> walk_at "ed")
  | (apply ed_mul <;> first | walk_at "ed" | walk_at "mul")
  | (apply ed_neg <;> walk_at "ed")
  | (apply ed_ixT <;> first | walk_at "ed" | rfl)
  | (apply ed_lt <;> walk_at "ed")
  | (apply ed_le <;> walk_at "ed")
  | (apply ed_gt <;> walk_at "ed")
  | (apply ed_ge <;> walk_at "ed")
  | (apply ed_eqI <;> walk_at "ed")
  | (apply ed_tup <;> first | walk_at "ea" | exact Nat.le_of_ble_eq_true rfl))
local macro_rules | `(tactic| walk_at "ea") => `(tactic| first
  | exact ea_nil
  | (apply ea_cons <;> first | walk_at "ed" | walk_at "ea"))
theorem sq_nn (a : Int) : 0 ≤ a * a := by rw [← Int.natAbs_mul_self]; omega
theorem sq_pos {a : Int} (h : a ≠ 0) : 0 < a * a := by
  have := sq_nn a
  have h2 : a * a ≠ 0 := fun z => by
    rcases Int.mul_eq_zero.mp z with z | z <;> exact h z
  omega
def R__law_right (ds : List PyData) (PP : PyData → Prop) : Prop := ds = [] ∧ PP = fun d => d = .bool true
def spL (K : PySem.W.Frag) : Sp := fun vs H Q _ => ∃ (a : Addr) (ns : List Int), vs = [.ref a] ∧ SqL K H a (ns.map V.int) ∧ ns.length ≤ 63 ∧ ∀ H', Q (.bl true) H'
def rE (rim : List Pt) (k : Int) (tl : List (Option PyData)) : List (Option PyData) := none :: some (boatD rim k) :: some (.tuple ((said rim k).map dp)) :: some (.list (rim.map dq)) :: tl
def n15 : List (Option PyData) := [none, none, none, none, none, none, none, none, none, none, none, none, none, none, none]
def dueB (rim : List Pt) (k : Int) (fl sd : P3) : Str := if anyB rim k fl sd then "some" else "none"
theorem enle_wipe : ∀ (es : List (Option PyData)), EnLe es (es.map fun _ => none)
  | [] => enle_nil
  | x :: es => enle_cons (.inl rfl) (enle_wipe es)
theorem rE_wipe {rim : List Pt} {k : Int} {tl : List (Option PyData)} (h : tl.length = 15) : EnLe (rE rim k tl) (rE rim k n15) := by
  have e : tl.map (fun _ => (none : Option PyData)) = n15 := by
    match tl, h with
    | [a1, a2, a3, a4, a5, a6, a7, a8, a9, a10, a11, a12, a13, a14, a15], _ => rfl
  rw [← e]
  exact enle_cons (.inl rfl) (enle_cons (.inr rfl) (enle_cons (.inr rfl) (enle_cons (.inr rfl) (enle_wipe tl))))
theorem rE_le {rim : List Pt} {k : Int} {tl tl' : List (Option PyData)} (h : EnLe tl tl') : EnLe (rE rim k tl) (rE rim k tl') := enle_cons (.inl rfl) (enle_cons (.inr rfl) (enle_cons (.inr rfl) (enle_cons (.inr rfl) h)))
theorem wof_repr (ps : List P3) (st sh : P3) : (reprText (wof ps st sh)).length ≤ sizeLine := by
  unfold wof
  split
  · decide +kernel
  · split
    · decide +kernel
    · split <;> decide +kernel
theorem at_cur {rim : List Pt} {i : Nat} (h : i < rim.length) : atI (rim.map dq) (i : Int) = some (dq (cur rim i)) := by
  refine atI_nat ?_
  rw [List.getElem?_map, List.getElem?_eq_getElem h]
  unfold cur
  rw [List.getD_eq_getElem?_getD, List.getElem?_eq_getElem h]; rfl
theorem at_prv {rim : List Pt} {i : Nat} (h : i < rim.length) : atI (rim.map dq) ((i : Int) - 1) = some (dq (prv rim i)) := by
  have hl : (rim.map dq).length = rim.length := List.length_map _
  have g : ∀ j, j < rim.length → (rim.map dq)[j]? = some (dq (rim.getD j (0, 0))) := fun j hj => by
    rw [List.getElem?_map, List.getElem?_eq_getElem hj, List.getD_eq_getElem?_getD, List.getElem?_eq_getElem hj]; rfl
  unfold prv
  by_cases e : i = 0
  · subst e
    rw [if_pos rfl]
    unfold atI ixN
    rw [hl, if_neg (by decide), if_pos (by omega)]
    show (rim.map dq)[(((0 : Nat) : Int) - 1 + (rim.length : Int)).toNat]? = _
    rw [show (((0 : Nat) : Int) - 1 + (rim.length : Int)).toNat = rim.length - 1 from by omega]
    exact g _ (by omega)
  · rw [if_neg e]
    have z : atI (rim.map dq) (((i - 1 : Nat)) : Int) = some (dq (rim.getD (i - 1) (0, 0))) := atI_nat (g _ (by omega))
    rw [show (i : Int) - 1 = ((i - 1 : Nat) : Int) from by omega]
    exact z
theorem cur_mem {rim : List Pt} {i : Nat} (h : i < rim.length) : cur rim i ∈ rim := by
  unfold cur
  rw [List.getD_eq_getElem?_getD, List.getElem?_eq_getElem h]
  exact List.getElem_mem h
theorem prv_mem {rim : List Pt} {i : Nat} (h : i < rim.length) : prv rim i ∈ rim := by
  unfold prv
  have hj : (if i = 0 then rim.length - 1 else i - 1) < rim.length := by split <;> omega
  rw [List.getD_eq_getElem?_getD, List.getElem?_eq_getElem hj]
  exact List.getElem_mem hj
theorem agn_bd {sd : P3} {q : Pt} (hs : (-4 < sd.1 ∧ sd.1 < 4) ∧ (-4 < sd.2.1 ∧ sd.2.1 < 4)) (hq : (-30 < q.1 ∧ q.1 < 30) ∧ (-30 < q.2 ∧ q.2 < 30)) : (-500 < (agn sd q).1 ∧ (agn sd q).1 < 500) ∧ (-500 < (agn sd q).2 ∧ (agn sd q).2 < 500) := by
  have k1 := mul_bd (a := sd.1) (b := q.1) (A := 3) (B := 29) (by omega) (by omega)
  have k2 := mul_bd (a := sd.2.1) (b := q.2) (A := 3) (B := 29) (by omega) (by omega)
  have k3 := mul_bd (a := sd.1) (b := q.2) (A := 3) (B := 29) (by omega) (by omega)
  have k4 := mul_bd (a := sd.2.1) (b := q.1) (A := 3) (B := 29) (by omega) (by omega)
  unfold agn
  dsimp only
  generalize sd.1 * q.1 = X1 at *
  generalize sd.2.1 * q.2 = X2 at *
  generalize sd.1 * q.2 = X3 at *
  generalize sd.2.1 * q.1 = X4 at *
  omega
theorem agn_nz {sd : P3} {q : Pt} (hs : ¬ (sd.1 = 0 ∧ sd.2.1 = 0)) (hq : ¬ (q.1 = 0 ∧ q.2 = 0)) : ¬ ((agn sd q).1 = 0 ∧ (agn sd q).2 = 0) := by
  rintro ⟨h1, h2⟩
  unfold agn at h1 h2
  dsimp only at h1 h2
  have e : (sd.1 * sd.1 + sd.2.1 * sd.2.1) * (q.1 * q.1 + q.2 * q.2) = (0 - sd.1 * q.1 - sd.2.1 * q.2) * (0 - sd.1 * q.1 - sd.2.1 * q.2) + (sd.1 * q.2 - sd.2.1 * q.1) * (sd.1 * q.2 - sd.2.1 * q.1) := by grind
  rw [h1, h2] at e
  have sq : ∀ a b : Int, ¬ (a = 0 ∧ b = 0) → 0 < a * a + b * b := fun a b h => by
    have p1 : 0 ≤ a * a := sq_nn a
    have p2 : 0 ≤ b * b := sq_nn b
    by_cases ea : a = 0
    · have eb : b ≠ 0 := fun z => h ⟨ea, z⟩
      have : 0 < b * b := sq_pos eb
      omega
    · have : 0 < a * a := sq_pos ea
      omega
  have p1 := Int.mul_pos (sq _ _ hs) (sq _ _ hq)
  omega
theorem red_ok {a b : Int} (h : ¬ (a = 0 ∧ b = 0)) (ha : -1000 < a ∧ a < 1000) (hb : -1000 < b ∧ b < 1000) : WndOk (red a b) := by
  have d1 := abs_div a (cdiv [a, b])
  have d2 := abs_div b (cdiv [a, b])
  refine ⟨cd_red2 h, ?_, ?_⟩
  · show -1000 < a / cdiv [a, b] ∧ a / cdiv [a, b] < 1000
    omega
  · show -1000 < b / cdiv [a, b] ∧ b / cdiv [a, b] < 1000
    omega
def WO (d : PyData) : Prop := ∃ air : Pt, d = dq air ∧ WndOk air
def onA (f : Pt → PyData) : PyData → PyData
  | .tuple [.int a, .int b] => f (a, b)
  | d => d
theorem vals_rev {zs : List V} {ws : List Value} (r : Vals zs ws) : Vals zs.reverse ws.reverse := by
  induction zs generalizing ws with
  | nil => cases r; exact .nil
  | cons z zs ih =>
    cases r with
    | cons h t =>
      rw [List.reverse_cons, List.reverse_cons]
      exact (ih t).append (.cons h .nil)
theorem kb_winds_off {K : PySem.W.Frag} {fd : FuncData} (F : FnP K "winds_off" s_winds_off (He.ga K "winds_off") fd) : KBn K fd p_winds_off 0 ["shore", "stream", "figure"] (fun _ ws => ws.reverse) (fun _ zs => zs.reverse) := by
  obtain ⟨oc, od, dV, kV, doc, pm, an, cdv, ct, osl, rfl, lk, hcd, hD, hK⟩ := F.ex
  rcases hD with ⟨_, rfl⟩ | ⟨e, _⟩
  · refine ⟨fun s us ws X hl hw => .of_eq ?_, fun r1 r2 => ?_⟩
    · match us, ws, hl, hw with
      | [], [a, b, c], _, _ => rfl
    · exact vals_rev r2
  · exact absurd rfl e
def gWnd {α : Type} : List α → List α
  | [a, b, c, d] => [c, d, b, a]
  | l => l
theorem gWnd_rel {zs : List V} {ws : List Value} (r : Vals zs ws) : Vals (gWnd zs) (gWnd ws) := by
  match zs, ws, r with
  | [], _, r => cases r; exact .nil
  | [a], _, .cons h1 r => cases r; exact .cons h1 .nil
  | [a, b], _, .cons h1 (.cons h2 r) => cases r; exact .cons h1 (.cons h2 .nil)
  | [a, b, c], _, .cons h1 (.cons h2 (.cons h3 r)) => cases r; exact .cons h1 (.cons h2 (.cons h3 .nil))
  | [a, b, c, d], _, .cons h1 (.cons h2 (.cons h3 (.cons h4 r))) => cases r; exact .cons h3 (.cons h4 (.cons h2 (.cons h1 .nil)))
  | a :: b :: c :: d :: e :: zs, _, .cons h1 (.cons h2 (.cons h3 (.cons h4 (.cons h5 r)))) => exact .cons h1 (.cons h2 (.cons h3 (.cons h4 (.cons h5 r))))
theorem kb_holds_in_wind {K : PySem.W.Frag} {fd : FuncData} (F : FnP K "holds_in_wind" s_holds_in_wind (He.ga K "holds_in_wind") fd) : KBn K fd p_holds_in_wind 0 ["wind", "shore", "figure", "stream"] (fun _ ws => gWnd ws) (fun _ zs => gWnd zs) := by
  obtain ⟨oc, od, dV, kV, doc, pm, an, cdv, ct, osl, rfl, lk, hcd, hD, hK⟩ := F.ex
  rcases hD with ⟨_, rfl⟩ | ⟨e, _⟩
  · refine ⟨fun s us ws X hl hw => .of_eq ?_, fun r1 r2 => gWnd_rel r2⟩
    match us, ws, hl, hw with
    | [], [a, b, c, d], _, _ => rfl
  · exact absurd rfl e
theorem hp_of {rim : List Pt} {k : Int} {fl sd : P3} (B : BoatOk rim k) (F : FlowOk fl) (S : SdeOk sd) : HldPre rim k fl sd := by
  have h1 := m_len B
  have hk := B.k
  have hf := F.s
  have hv := F.v.1
  have hs := S.s
  refine ⟨by omega, fun q hq => ?_, by omega, by omega, by omega⟩
  have := m_sm B q hq
  unfold Sm8 at this
  omega
theorem flow_of {x y w : Int} (hx : -6 < x ∧ x < 6) (hy : -6 < y ∧ y < 6) (hw : 0 < w ∧ w < 7) : FlowOk (red3 x y w) := by
  have d1 := abs_div x (cdiv [x, y, w])
  have d2 := abs_div y (cdiv [x, y, w])
  have d3 := abs_div w (cdiv [x, y, w])
  have g := cd3_pos (a := x) (b := y) hw.1
  have dv : (cdiv [x, y, w]) ∣ w := by
    rw [cdiv3]
    exact Int.natAbs_dvd_natAbs.mp (by rw [Int.natAbs_natCast]; exact Nat.gcd_dvd_right _ _)
  refine ⟨⟨Int.ediv_pos_of_pos_of_dvd hw.1 (Int.le_of_lt g.1) dv, cd_red3w hw.1⟩, ?_, ?_, ?_⟩
  · show -6 < x / cdiv [x, y, w] ∧ x / cdiv [x, y, w] < 6
    omega
  · show -6 < y / cdiv [x, y, w] ∧ y / cdiv [x, y, w] < 6
    omega
  · show w / cdiv [x, y, w] < 7
    omega
theorem nz_ne {q : Pt} (h : nz q = true) : ¬ (q.1 = 0 ∧ q.2 = 0) := by
  rintro ⟨h1, h2⟩
  unfold nz at h
  rw [h1, h2] at h
  exact absurd h (by decide)
theorem wst_ok {rim : List Pt} {k : Int} {sd : P3} (B : BoatOk rim k) (S : SdeOk sd) {i : Nat} (hi : i < rim.length) : WndOk (wst rim sd i) := by
  have h1 := m_sm B _ (cur_mem hi)
  have h2 := m_sm B _ (prv_mem hi)
  unfold Sm8 at h1 h2
  have b := agn_bd (q := enr rim i) S.s (by unfold enr; dsimp only; omega)
  exact red_ok (agn_nz S.v.1 (m_enr B hi)) (by omega) (by omega)
theorem bsw_ok {rim : List Pt} {k : Int} {sd : P3} (B : BoatOk rim k) (S : SdeOk sd) {q : Pt} (hq : q ∈ rim) (hz : nz q = true) : WndOk (bsw sd q) := by
  have h1 := m_sm B _ hq
  unfold Sm8 at h1
  have b := agn_bd (q := q) S.s (by omega)
  exact red_ok (agn_nz S.v.1 (nz_ne hz)) (by omega) (by omega)
theorem sk_asgD {K : PySem.W.Frag} {l : Addr} {es : List (Option PyData)} {te : TE} {i : Nat} {G0 H0 : Hp} {ow : Option (Nat × List PyData)} {σ : L2.St} {H : Hp} {D : Ends} (d0 : PyData) (o : SkS K l G0 H0 ow es σ H) (he : Es K l te es (fun x => x = d0)) (hi : Off ow i) (k : ∀ d σ' H', d = d0 → SkS K l G0 H0 ow (es.set i (some d)) σ' H' → D.nx σ' H') : tAsg te (gName i) D σ H := sk_asg o he hi k
section
variable {P : Program} {w : World} {K : PySem.W.Frag} {mg : Str → Option Value} {base : Heap} (T : Blt K mg)
include T
theorem ok__law_right (D : DefOk K mg "_law_right" s__law_right p__law_right) (o_holds_in_wind : OkF P w K mg base 10 "holds_in_wind" s_holds_in_wind p_holds_in_wind (spD K R_holds_in_wind)) (o__law_is_held : OkF P w K mg base 1 "_law_is_held" s__law_is_held p__law_is_held (spD K R__law_is_held)) (o__law_wind : OkF P w K mg base 2 "_law_wind" s__law_wind p__law_wind (spD K R__law_wind)) (o__law_draw : OkF P w K mg base 1 "_law_draw" s__law_draw p__law_draw (spS K R__law_draw)) (o__law_one : OkF P w K mg base 2 "_law_one" s__law_one p__law_one (spS K R__law_one)) (o_winds_off : OkF P w K mg base 10 "winds_off" s_winds_off p_winds_off (spD K R_winds_off)) (o__law_against : OkF P w K mg base 3 "_law_against" s__law_against p__law_against (spD K R__law_against)) (o__law_side : OkF P w K mg base 2 "_law_side" s__law_side p__law_side (spS K R__law_side)) (o__law_spot : OkF P w K mg base 2 "_law_spot" s__law_spot p__law_spot (spD K R__law_spot)) (o__law_said : OkF P w K mg base 3 "_law_said" s__law_said p__law_said (spD K R__law_said)) (o__law_boat : OkF P w K mg base 4 "_law_boat" s__law_boat p__law_boat (spS K R__law_boat)) : OkF P w K mg base 11 "_law_right" s__law_right p__law_right (spS K R__law_right) := by
  refine ok_ofS D c__law_right (fun ds PP h => ?_) (fun cdv A outer s H0 E hr => ⟨_, (pss_cons (ps_set (i := 1) c__law_right.nd rfl (by first | exact Or.inl rfl | exact Or.inr rfl) (pe_own o__law_boat (hr.mono (by decide)) (by rfl) (pa_cons (pv 0) pa_nil)))
    (pss_cons (ps_asg (pe_tup (pa_cons (pe_own o__law_said (hr.mono (by decide)) (by rfl) (pa_cons (pe_ix (r := rIxL K) ix_list (pv 1) pe_int (fun _ _ => rfl)) (pa_cons (pe_ix (r := rIxL K) ix_list (pv 1) pe_int (fun _ _ => rfl)) pa_nil))) (pa_cons (pe_ix (r := rIxL K) ix_list (pv 1) pe_int (fun _ _ => rfl)) pa_nil))) (pg_tup rfl (pgs_cons (pg_name (i := 2) c__law_right.nd rfl (by first | exact Or.inl rfl | exact Or.inr rfl)) (pgs_cons (pg_name (i := 3) c__law_right.nd rfl (by first | exact Or.inl rfl | exact Or.inr rfl)) pgs_nil))))
    (pss_cons (ps_for PassesOwn.never rfl (pi_range1 (by rfl) T.range (pa_cons pe_int pa_nil)) (pg_name (i := 4) c__law_right.nd rfl (by first | exact Or.inl rfl | exact Or.inr rfl)) (pss_cons (ps_set (i := 5) c__law_right.nd rfl (by first | exact Or.inl rfl | exact Or.inr rfl) (pe_own o__law_spot (hr.mono (by decide)) (by rfl) (pa_cons (pe_op op_sub (pe_own o__law_draw (hr.mono (by decide)) (by rfl) (pa_cons (pv 0) (pa_cons pe_int pa_nil))) pe_int) (pa_cons (pe_op op_sub (pe_own o__law_draw (hr.mono (by decide)) (by rfl) (pa_cons (pv 0) (pa_cons pe_int pa_nil))) pe_int) (pa_cons (pe_op op_add pe_int (pe_own o__law_draw (hr.mono (by decide)) (by rfl) (pa_cons (pv 0) (pa_cons pe_int pa_nil)))) pa_nil)))))
    (pss_cons (ps_set (i := 6) c__law_right.nd rfl (by first | exact Or.inl rfl | exact Or.inr rfl) (pe_own o__law_side (hr.mono (by decide)) (by rfl) (pa_cons (pv 0) pa_nil)))
    (pss_cons (ps_setLc (i := 7) (own := [("_law_k", 16)]) (g := gName 16) (tt := tYes) rfl c__law_right.nd rfl rfl (sw_true rfl rfl rfl (by decide +kernel)) (pi_range1 (by rfl) T.range (pa_cons (pe_callB call_len_seq (by rfl) T.len bb_len (pa_cons (pv 3) pa_nil)) pa_nil)) (blkOk_by (N := n__law_right) (sc := defScope s__law_right) (by decide +kernel)) (fun _ _ _ _ _ => (pg_name (i := 16) c__law_right.nd rfl (by first | exact Or.inl rfl | exact Or.inr rfl))) (fun _ _ _ _ _ => pts_nil) (fun _ _ _ _ _ => (pe_own o__law_against (hr.mono (by decide)) (by rfl) (pa_cons (pv 6) (pa_cons (pe_op op_sub (pe_ix (r := rIxT K) ix_tup (pe_ix (r := rIxL K) ix_list (pv 3) (pv 16) (fun _ _ => rfl)) pe_int (fun _ _ => rfl)) (pe_ix (r := rIxT K) ix_tup (pe_ix (r := rIxL K) ix_list (pv 3) (pe_op op_sub (pv 16) pe_int) (fun _ _ => rfl)) pe_int (fun _ _ => rfl))) (pa_cons (pe_op op_sub (pe_ix (r := rIxT K) ix_tup (pe_ix (r := rIxL K) ix_list (pv 3) (pe_op op_sub (pv 16) pe_int) (fun _ _ => rfl)) pe_int (fun _ _ => rfl)) (pe_ix (r := rIxT K) ix_tup (pe_ix (r := rIxL K) ix_list (pv 3) (pv 16) (fun _ _ => rfl)) pe_int (fun _ _ => rfl))) pa_nil))))))
    (pss_cons (ps_setLc (i := 8) (own := [("_law_x", 17), ("_law_y", 18)]) (g := gTup K 2 (gCons (gName 17) (gCons (gName 18) (gNil)))) (tt := _) rfl c__law_right.nd rfl rfl (sw_true rfl rfl rfl (by decide +kernel)) (pi_list (pv 3)) (blkOk_by (N := n__law_right) (sc := defScope s__law_right) (by decide +kernel)) (fun _ _ _ _ _ => (pg_tup rfl (pgs_cons (pg_name (i := 17) c__law_right.nd rfl (by first | exact Or.inl rfl | exact Or.inr rfl)) (pgs_cons (pg_name (i := 18) c__law_right.nd rfl (by first | exact Or.inl rfl | exact Or.inr rfl)) pgs_nil)))) (fun _ _ _ _ _ => (pts_one (PW.pt (pw_or (pt_cmpR op_ne (pv 17) pe_int (nomark _)) (pw_or1 (pt_cmpR op_ne (pv 18) pe_int (nomark _))))))) (fun _ _ _ _ _ => (pe_own o__law_against (hr.mono (by decide)) (by rfl) (pa_cons (pv 6) (pa_cons (pv 17) (pa_cons (pv 18) pa_nil))))))
    (pss_cons (ps_set (i := 9) c__law_right.nd rfl (by first | exact Or.inl rfl | exact Or.inr rfl) (pe_ifExp (pt_val (pe_callB (cr_any rfl) (by rfl) T.any bb_any (pa_cons (pe_lc (own := [("_law_each", 14)]) (g := gName 14) (tt := tYes) rfl c__law_right.nd (pi_list (pv 8)) (blkOk_by (N := n__law_right) (sc := defScope s__law_right) (by decide +kernel)) (fun _ _ _ _ _ => (pg_name (i := 14) c__law_right.nd rfl (by first | exact Or.inl rfl | exact Or.inr rfl))) (fun _ _ _ _ _ => pts_nil) (fun _ _ _ _ _ => (pe_own o__law_is_held (hr.mono (by decide)) (by rfl) (pa_cons (pv 1) (pa_cons (pv 5) (pa_cons (pv 6) (pa_cons (pv 14) pa_nil))))))) pa_nil))) pe_str pe_str))
    (pss_cons (ps_if (pt_val (pe_callB (cr_all rfl) (by rfl) T.all bb_all (pa_cons (pe_lc (own := [("_law_each", 14)]) (g := gName 14) (tt := tYes) rfl c__law_right.nd (pi_list (pv 7)) (blkOk_by (N := n__law_right) (sc := defScope s__law_right) (by decide +kernel)) (fun _ _ _ _ _ => (pg_name (i := 14) c__law_right.nd rfl (by first | exact Or.inl rfl | exact Or.inr rfl))) (fun _ _ _ _ _ => pts_nil) (fun _ _ _ _ _ => (pe_own o__law_is_held (hr.mono (by decide)) (by rfl) (pa_cons (pv 1) (pa_cons (pv 5) (pa_cons (pv 6) (pa_cons (pv 14) pa_nil))))))) pa_nil))) (pss_one (ps_set (i := 9) c__law_right.nd rfl (by first | exact Or.inl rfl | exact Or.inr rfl) pe_str)) pss_nil)
    (pss_cons (ps_if (PW.pt (pw_or (pt_cmpR op_ne (pe_callB call_reprT (by rfl) T.repr bb_repr (pa_cons (pe_own o_winds_off (hr.mono (by decide)) (by rfl) (pa_cons (pv 2) (pa_cons (pv 5) (pa_cons (pv 6) pa_nil)))) pa_nil)) (pe_callB call_reprT (by rfl) T.repr bb_repr (pa_cons (pv 9) pa_nil)) (nomark _)) (pw_or1 (pt_cmpR op_ne (pe_callB call_reprT (by rfl) T.repr bb_repr (pa_cons (pe_ownN o_winds_off (hr.mono (by decide)) (by rfl) (fun _ F => kb_winds_off F) (pk_cons (pv 6) (pk_cons (pv 5) (pk_cons (pv 2) pk_nil)))) pa_nil)) (pe_callB call_reprT (by rfl) T.repr bb_repr (pa_cons (pv 9) pa_nil)) (nomark _))))) pss_never pss_nil)
    (pss_cons (ps_set (i := 10) c__law_right.nd rfl (by first | exact Or.inl rfl | exact Or.inr rfl) (pe_lst (pa_cons (pe_own o__law_one (hr.mono (by decide)) (by rfl) (pa_cons (pv 0) (pa_cons (pv 7) pa_nil))) (pa_cons (pe_own o__law_one (hr.mono (by decide)) (by rfl) (pa_cons (pv 0) (pa_cons (pv 8) pa_nil))) pa_nil))))
    (pss_cons (ps_for PassesOwn.never rfl (pi_range1 (by rfl) T.range (pa_cons pe_int pa_nil)) (pg_name (i := 11) c__law_right.nd rfl (by first | exact Or.inl rfl | exact Or.inr rfl)) (pss_cons (ps_par (i := 12) (j := 13) rfl c__law_right.nd rfl rfl (by decide) rfl rfl (pa_cons (pe_op op_sub (pe_own o__law_draw (hr.mono (by decide)) (by rfl) (pa_cons (pv 0) (pa_cons pe_int pa_nil))) pe_int) (pa_cons (pe_op op_sub (pe_own o__law_draw (hr.mono (by decide)) (by rfl) (pa_cons (pv 0) (pa_cons pe_int pa_nil))) pe_int) pa_nil)) (by rfl))
    (pss_one (ps_expr (pe_bm PySem.F.plainAttrs_list PySem.F.slot_list_append PySem.F.type_list_append mt_append (pv 10) (pa_cons (pe_own o__law_wind (hr.mono (by decide)) (by rfl) (pa_cons (pe_ifExp (PW.pt (pw_or (pt_cmpR op_ne (pv 13) pe_int (nomark _)) (pw_or1 (pt_cmpR op_ne (pv 12) pe_int (nomark _))))) (pv 12) pe_int) (pa_cons (pv 13) pa_nil))) pa_nil))))))
    (pss_one (ps_for PassesOwn.never rfl (pi_list (pv 10)) (pg_name (i := 14) c__law_right.nd rfl (by first | exact Or.inl rfl | exact Or.inr rfl)) (pss_cons (ps_set (i := 15) c__law_right.nd rfl (by first | exact Or.inl rfl | exact Or.inr rfl) (pe_own o__law_is_held (hr.mono (by decide)) (by rfl) (pa_cons (pv 1) (pa_cons (pv 5) (pa_cons (pv 6) (pa_cons (pv 14) pa_nil))))))
    (pss_cons (ps_if (pt_cmpR op_ne (pe_callB call_reprT (by rfl) T.repr bb_repr (pa_cons (pe_own o_holds_in_wind (hr.mono (by decide)) (by rfl) (pa_cons (pv 2) (pa_cons (pv 5) (pa_cons (pv 6) (pa_cons (pv 14) pa_nil))))) pa_nil)) (pe_callB call_reprT (by rfl) T.repr bb_repr (pa_cons (pv 15) pa_nil)) (nomark _)) pss_never pss_nil)
    (pss_one (ps_if (PW.pt (pw_or (PW.pt (pw_and (pt_cmpR op_eq (pv 9) pe_str (nomark _)) (pw_and1 (pt_not (pt_val (pv 15)))))) (pw_or1 (PW.pt (pw_and (pt_cmpR op_eq (pv 9) pe_str (nomark _)) (pw_and1 (pt_val (pv 15)))))))) pss_never pss_nil))))))))))))))))
    (pss_one (ps_ret (pe_cmpR op_eq (pe_callB call_reprT (by rfl) T.repr bb_repr (pa_cons (pe_ownN o_holds_in_wind (hr.mono (by decide)) (by rfl) (fun _ F => kb_holds_in_wind F) (pk_cons (pv 14) (pk_cons (pv 6) (pk_cons (pv 2) (pk_cons (pv 5) pk_nil))))) pa_nil)) (pe_callB call_reprT (by rfl) T.repr bb_repr (pa_cons (pv 15) pa_nil)) (nomark _))))))), fun ds PP h l σ G H D hE hS g hσ hs q => ?_⟩)
  · obtain ⟨rfl, _⟩ := h; rfl
  · obtain ⟨rfl, rfl⟩ := h
    have dr : ∀ (n : Int) (es : List (Option PyData)), 0 < n → n < 100 → Es K l (tCall (spS K R__law_draw) [] E0 (tCons (tVar 0) (tCons (tC (.int n)) tNil))) es (PI fun r => 0 ≤ r ∧ r < n) := fun n es h0 h1 => es_callS (ea_cons ed_int ea_nil) ⟨n, rfl, h0, by omega, rfl⟩
    have drm : ∀ (n m : Int) (es : List (Option PyData)), 0 < n → n < 100 → Es K l (tOp (rI0 fun i j => .int (i - j)) (tCall (spS K R__law_draw) [] E0 (tCons (tVar 0) (tCons (tC (.int n)) tNil))) (tC (.int m))) es (PI fun r => -m ≤ r ∧ r < n - m) := fun n m es h0 h1 => es_subI (dr n es h0 h1) ed_int fun a ha => by omega
    refine dr_seq (sk_asg (sk_start hE hS g hσ hs) (es_callS ea_nil ⟨rfl, rfl⟩) off_none fun d σ1 H1 hd o1 => ?_)
    obtain ⟨rim, k, rfl, B⟩ := hd
    have hk := B.k
    have hrl := m_len B
    refine dr_seq (sk_asgG (vs := [2, 3]) o1 (es_of (d := .tuple [.tuple ((said rim k).map dp), .list (rim.map dq)]) (ed_tup (ea_cons (ed_call (ea_cons (ed_ixL (ed_var (i := 1)) ed_int rfl) (ea_cons (ed_ixL (ed_var (i := 1)) ed_int rfl) ea_nil)) ⟨rim, k, rfl, by omega, hk.1, by omega, rfl⟩) (ea_cons (ed_ixL (ed_var (i := 1)) ed_int rfl) ea_nil)) (Nat.le_of_ble_eq_true rfl))) (by decide) (fun j ds e => nomatch e) fun d hd => ?_)
    subst hd
    refine ⟨_, gd_tup (gs_cons (gd_in (by decide)) (gs_cons (gd_in (by decide)) gs_nil)), fun σ2 H2 o2 => ?_⟩
    have o2' : SkS K l G H none (rE rim k n15) σ2 H2 := o2
    have hcall : ∀ (es : List (Option PyData)) (fl sd : P3) (air : Pt) (a b c e : TE), FlowOk fl → SdeOk sd → WndOk air → Ed K a es (boatD rim k) → Ed K b es (dp fl) → Ed K c es (dp sd) → Ed K e es (dq air) → Ed K (tCall (spD K R__law_is_held) [] E0 (tCons a (tCons b (tCons c (tCons e tNil))))) es (.bool (hld rim k fl sd air)) := fun es fl sd air a b c e F S W ha hb hc he =>
      ed_call (ea_cons ha (ea_cons hb (ea_cons hc (ea_cons he ea_nil)))) ⟨rim, k, fl, sd, air, rfl, hp_of B F S, W.2, rfl⟩
    refine dr_seq (sk_forR o2' (eas_of (ea_cons (ed_int (a := 2)) ea_nil)) (fun ds hds => ⟨2, hds, by decide⟩) (fun i σ H' => (i = 0 ∧ SkS K l G H none (rE rim k n15) σ H') ∨ ∃ fl sd air, FlowOk fl ∧ SdeOk sd ∧ WndOk air ∧ SkS K l G H none (rE rim k [none, some (dp fl), some (dp sd), none, none, none, none, none, none, none, some (dq air), some (.bool (hld rim k fl sd air)), none, none, none]) σ H') (fun H' o' => .inl ⟨rfl, o'⟩) (fun i σ' H' N hi hI kN => ?_) (fun ds n σ' H' hds hn hI => ?_))
    · have o3 : SkS K l G H none (rE rim k n15) σ' H' := by
        rcases hI with ⟨_, o⟩ | ⟨fl, sd, air, _, _, _, o⟩
        · exact o
        · exact sk_le o (rE_wipe rfl)
      refine gName_go ?_
      have o4 := sk_nm (j := 4) (d := .int (i : Int)) o3 off_none fun G => .int _
      -- the flow
      refine dr_seq (sk_asg (P := fun d => ∃ fl : P3, d = dp fl ∧ FlowOk fl) o4 (es_call (eas_cons (drm 11 5 _ (by decide) (by decide)) (eas_cons (drm 11 5 _ (by decide) (by decide)) (eas_cons (es_addI (C := fun r => 1 ≤ r ∧ r < 7) ed_int (dr 6 _ (by decide) (by decide)) fun b hb => by omega) eas_nil))) fun ds hds => ?_) off_none fun d σ5 H5 hd o5 => ?_)
      · obtain ⟨d1, r1, rfl, ⟨x, rfl, hx⟩, d2, r2, rfl, ⟨y, rfl, hy⟩, d3, r3, rfl, ⟨w, rfl, hw⟩, rfl⟩ := hds
        exact ⟨_, ⟨x, y, w, rfl, by omega, by omega, rfl⟩, _, rfl, flow_of ⟨by omega, by omega⟩ ⟨by omega, by omega⟩ ⟨by omega, by omega⟩⟩
      obtain ⟨fl, rfl, F⟩ := hd
      refine dr_seq (sk_asg o5 (es_callS ea_nil ⟨rfl, rfl⟩) off_none fun d σ6 H6 hd o6 => ?_)
      obtain ⟨sd, rfl, S⟩ := hd
      have e6 : SkS K l G H none (rE rim k [some (.int (i : Int)), some (dp fl), some (dp sd), none, none, none, none, none, none, none, none, none, none, none, none]) σ6 H6 := o6
      -- the worst, the best
      refine dr_seq (sk_asgD (d0 := .list ((List.range rim.length).map fun i => dq (wst rim sd i))) e6 (es_of (Ed.is (ed_lcR (n := (rim.length : Int)) (fun i => dq (wst rim sd i)) (ea_cons (ed_lenL (ed_var (i := 3)) (by rw [List.length_map])) ea_nil) (by omega) (by omega) fun i hi => ?_) (by rw [Int.toNat_natCast]))) off_none fun d σ7 H7 hd o7 => ?_)
      · have hi' : i < rim.length := by omega
        refine ⟨_, gd_in (by decide), ed_call (ea_cons (ed_var (i := 6)) (ea_cons (d := .int (enr rim i).1) (ed_sub (ed_ixT (ed_ixL (ed_var (i := 3)) (ed_var (i := 16)) (at_cur hi')) ed_int rfl) (ed_ixT (ed_ixL (ed_var (i := 3)) (ed_sub (ed_var (i := 16)) ed_int) (at_prv hi')) ed_int rfl)) (ea_cons (d := .int (enr rim i).2) (ed_sub (ed_ixT (ed_ixL (ed_var (i := 3)) (ed_sub (ed_var (i := 16)) ed_int) (at_prv hi')) ed_int rfl) (ed_ixT (ed_ixL (ed_var (i := 3)) (ed_var (i := 16)) (at_cur hi')) ed_int rfl)) ea_nil))) ⟨sd, enr rim i, rfl, ?_, ?_, ?_, agn_nz S.v.1 (m_enr B hi'), rfl⟩⟩
        · have := S.s; omega
        · have h1 := m_sm B _ (cur_mem hi')
          have h2 := m_sm B _ (prv_mem hi')
          unfold Sm8 at h1 h2
          unfold enr
          dsimp only
          omega
        · have h1 := m_sm B _ (cur_mem hi')
          have h2 := m_sm B _ (prv_mem hi')
          unfold Sm8 at h1 h2
          unfold enr
          dsimp only
          omega
      subst hd
      refine dr_seq (sk_asgD (d0 := .list ((rim.filter nz).map fun q => dq (bsw sd q))) o7 (es_of (Ed.is (ed_lcLF (fun d => match d with | .tuple [.int x, .int y] => nz (x, y) | _ => false) (onA fun q => dq (bsw sd q)) (ed_var (i := 3)) (by rw [List.length_map]; omega) fun d hd => ?_) ?_)) off_none fun d σ8 H8 hd o8 => ?_)
      · obtain ⟨p, hp, rfl⟩ := List.mem_map.mp hd
        refine ⟨_, gd_tup (gs_cons (gd_in (by decide)) (gs_cons (gd_in (by decide)) gs_nil)), et_or (et_test (ed_neI (ed_var (i := 17)) ed_int)) fun _ => et_test (ed_neI (ed_var (i := 18)) ed_int), fun hkp => ed_call (ea_cons (ed_var (i := 6)) (ea_cons (ed_var (i := 17)) (ea_cons (ed_var (i := 18)) ea_nil))) ⟨sd, p, rfl, ?_, ?_, ?_, agn_nz S.v.1 (nz_ne hkp), rfl⟩⟩
        · have := S.s; omega
        · have h1 := m_sm B _ hp
          unfold Sm8 at h1
          omega
        · have h1 := m_sm B _ hp
          unfold Sm8 at h1
          omega
      · rw [List.filter_map, List.map_map]; rfl
      subst hd
      have wW : ∀ i, i < rim.length → WndOk (wst rim sd i) := fun i hi => wst_ok B S hi
      have wB : ∀ q ∈ rim.filter nz, WndOk (bsw sd q) := fun q hq => bsw_ok B S (List.mem_filter.mp hq).1 (List.mem_filter.mp hq).2
      have fl1 : (rim.filter nz).length ≤ rim.length := List.length_filter_le _ _
      -- the due
      have eB : ((rim.filter nz).map fun q => dq (bsw sd q)).map (onA fun air => .bool (hld rim k fl sd air)) = ((rim.filter nz).map fun q => hld rim k fl sd (bsw sd q)).map PyData.bool := by
        rw [List.map_map, List.map_map]; rfl
      have zB := bc_any (K := K) (bs := (rim.filter nz).map fun q => hld rim k fl sd (bsw sd q))
      rw [← eB] at zB
      have aB : (((rim.filter nz).map fun q => hld rim k fl sd (bsw sd q)).any id) = anyB rim k fl sd := by
        unfold anyB; rw [List.any_map]; rfl
      have eW : ((List.range rim.length).map fun i => dq (wst rim sd i)).map (onA fun air => .bool (hld rim k fl sd air)) = ((List.range rim.length).map fun i => hld rim k fl sd (wst rim sd i)).map PyData.bool := by
        rw [List.map_map, List.map_map]; rfl
      have zW := bc_all (K := K) (bs := (List.range rim.length).map fun i => hld rim k fl sd (wst rim sd i))
      rw [← eW] at zW
      have aW : (((List.range rim.length).map fun i => hld rim k fl sd (wst rim sd i)).all id) = allW rim k fl sd := by
        unfold allW; rw [List.all_map]; rfl
      refine dr_seq (sk_asgD (d0 := .str (dueB rim k fl sd)) o8 (es_of (ed_if (et_B (ed_cb (ea_cons (ed_lcL _ (ed_var (i := 8)) (by rw [List.length_map]; omega) fun d hd => ?_) ea_nil) zB)) (fun h => Ed.is ed_str (by rw [aB] at h; unfold dueB; rw [if_pos h])) (fun h => Ed.is ed_str (by rw [aB] at h; unfold dueB; rw [if_neg (by rw [h]; exact Bool.false_ne_true)])))) off_none fun d σ9 H9 hd o9 => ?_)
      · obtain ⟨q, hq, rfl⟩ := List.mem_map.mp hd
        exact ⟨_, gd_in (by decide), hcall _ fl sd (bsw sd q) _ _ _ _ F S (wB q hq) (ed_var (i := 1)) (ed_var (i := 5)) (ed_var (i := 6)) (ed_var (i := 14))⟩
      subst hd
      have e9 : SkS K l G H none (rE rim k [some (.int (i : Int)), some (dp fl), some (dp sd), some (.list ((List.range rim.length).map fun i => dq (wst rim sd i))), some (.list ((rim.filter nz).map fun q => dq (bsw sd q))), some (.str (dueB rim k fl sd)), none, none, none, none, none, none, none, none, none]) σ9 H9 := o9
      refine dr_seq (sk_ifB e9 (et_B (ed_cb (ea_cons (ed_lcL _ (ed_var (i := 7)) (by rw [List.length_map, List.length_range]; omega) fun d hd => ?_) ea_nil) zW)) (fun σ H' => SkS K l G H none (rE rim k [none, some (dp fl), some (dp sd), some (.list ((List.range rim.length).map fun i => dq (wst rim sd i))), some (.list ((rim.filter nz).map fun q => dq (bsw sd q))), some (.str (dueS rim k fl sd)), none, none, none, none, none, none, none, none, none]) σ H') (fun σA HA oA => ?_) (fun hb D' HA kk oA => ?_) (fun hb D' HA kk oA => ?_))
      · obtain ⟨j, hj, rfl⟩ := List.mem_map.mp hd
        exact ⟨_, gd_in (by decide), hcall _ fl sd (wst rim sd j) _ _ _ _ F S (wW j (List.mem_range.mp hj)) (ed_var (i := 1)) (ed_var (i := 5)) (ed_var (i := 6)) (ed_var (i := 14))⟩
      rotate_left
      · rw [aW] at hb
        refine sk_asg oA (es_of (d := .str "all") ed_str) off_none fun d σ H' hd o => kk _ _ ?_
        subst hd
        have ed : dueS rim k fl sd = "all" := by unfold dueS; rw [if_pos hb]
        rw [ed]
        exact sk_le o (rE_le (enle_cons (.inl rfl) (enle_refl)))
      · rw [aW] at hb
        refine kk _ _ ?_
        have ed : dueS rim k fl sd = dueB rim k fl sd := by unfold dueS dueB; rw [if_neg (by rw [hb]; exact Bool.false_ne_true)]
        rw [ed]
        exact sk_le oA (rE_le (enle_cons (.inl rfl) (enle_refl)))
      have mdue := m_due B F S
      have ask := m_ask B F S
      have rz : (reprText (dueS rim k fl sd)).length ≤ sizeLine := by rw [← mdue]; exact wof_repr _ _ _
      -- the two say the same
      have eqS : ∀ x : Str, (!decide (x = x)) = false := fun x => by simp
      refine dr_seq (sk_if (p := false || false) oA (et_or (p := false) (q := false) (Et.is (et_test (ed_neS (ed_reprS (Ed.is (ed_call (ea_cons (ed_var (i := 2)) (ea_cons (ed_var (i := 5)) (ea_cons (ed_var (i := 6)) ea_nil))) ⟨said rim k, fl, sd, rfl, ask, rfl⟩) (by rw [mdue])) rz) (ed_reprS (ed_var (i := 9)) rz))) (eqS _)) fun _ => Et.is (et_test (ed_neS (ed_reprS (Ed.is (ed_callN (n := 3) List.reverse (ea_cons (ed_var (i := 6)) (ea_cons (ed_var (i := 5)) (ea_cons (ed_var (i := 2)) ea_nil))) rfl (fun G vs h => dps_rev h) ⟨said rim k, fl, sd, rfl, ask, rfl⟩) (by rw [mdue])) rz) (ed_reprS (ed_var (i := 9)) rz))) (eqS _)) (fun e => nomatch e) fun _ HB oB => ?_)
      -- some winds
      have one : ∀ (j : Nat) (es : List (Option PyData)) (L : List PyData), es[j]? = some (some (.list L)) → 0 < L.length → L.length ≤ 1000 → (∀ d ∈ L, WO d) → Es K l (tCall (spS K R__law_one) [] E0 (tCons (tVar 0) (tCons (tVar j) tNil))) es WO := fun j es L hj h0 h1 hW => es_le (es_callS (ea_cons (ed_var hj) ea_nil) ⟨L, .inl rfl, h0, h1, rfl⟩) hW
      refine dr_seq (sk_open oB (eas_cons (one 7 _ _ rfl (by rw [List.length_map, List.length_range]; have := B.len; omega) (by rw [List.length_map, List.length_range]; omega) fun d hd => ?_) (eas_cons (one 8 _ _ rfl ?_ (by rw [List.length_map]; omega) fun d hd => ?_) eas_nil)) (fun ds hds => ?_) (by decide) (Nat.le_of_ble_eq_true rfl) fun ds σC HC hds oC => ?_)
      · obtain ⟨j, hj, rfl⟩ := List.mem_map.mp hd
        exact ⟨_, rfl, wW j (List.mem_range.mp hj)⟩
      · rw [List.length_map]
        obtain ⟨q, hq, hz⟩ := m_nz B
        exact List.length_pos_iff.mpr (List.ne_nil_of_mem (List.mem_filter.mpr ⟨hq, hz⟩))
      · obtain ⟨q, hq, rfl⟩ := List.mem_map.mp hd
        exact ⟨_, rfl, wB q hq⟩
      · obtain ⟨d1, r1, rfl, _, d2, r2, rfl, _, rfl⟩ := hds
        exact Nat.le_of_ble_eq_true rfl
      obtain ⟨d1, r1, rfl, W1, d2, r2, rfl, W2, rfl⟩ := hds
      have eC : SkS K l G H (some (10, [d1, d2])) (rE rim k [none, some (dp fl), some (dp sd), some (.list ((List.range rim.length).map fun i => dq (wst rim sd i))), some (.list ((rim.filter nz).map fun q => dq (bsw sd q))), some (.str (dueS rim k fl sd)), none, none, none, none, none, none, none, none, none]) σC HC := oC
      have off10 : ∀ (ds : List PyData) (j : Nat), j ≠ 0 → j ≠ 10 → Off (some (10, ds)) j := fun ds j h1 h2 => ⟨h1, fun i ds e => by cases e; exact h2⟩
      refine dr_seq (sk_forR eC (eas_of (ea_cons (ed_int (a := 4)) ea_nil)) (fun ds hds => ⟨4, hds, by decide⟩) (fun i σ H' => ∃ ds : List PyData, ds.length = 2 + i ∧ (∀ d ∈ ds, WO d) ∧ SkS K l G H (some (10, ds)) (rE rim k [none, some (dp fl), some (dp sd), none, none, some (.str (dueS rim k fl sd)), none, none, none, none, none, none, none, none, none]) σ H') (fun H' o' => ⟨[d1, d2], rfl, fun d hd => ?_, sk_le o' (rE_le (enle_cons (.inl rfl) (enle_cons (.inr rfl) (enle_cons (.inr rfl) (enle_cons (.inl rfl) (enle_cons (.inl rfl) enle_refl))))))⟩) (fun j σD HD N hj hI kN => ?_) (fun ds n σD HD hds hn hI => ?_))
      · rcases List.mem_cons.mp hd with z | z
        · rw [z]; exact W1
        · rw [List.mem_singleton.mp z]; exact W2
      · obtain ⟨ds, hl, hW, oD⟩ := hI
        refine gName_go ?_
        have oD2 := sk_nm (j := 11) (d := .int (j : Int)) oD (off10 ds 11 (by decide) (by decide)) fun G => .int _
        refine dr_seq (sk_par oD2 (eas_cons (drm 19 9 _ (by decide) (by decide)) (eas_cons (drm 19 9 _ (by decide) (by decide)) eas_nil)) (off10 ds 12 (by decide) (by decide)) (off10 ds 13 (by decide) (by decide)) fun ds2 hds2 => ?_)
        obtain ⟨d3, r3, rfl, ⟨c, rfl, hc⟩, d4, r4, rfl, ⟨s', rfl, hs'⟩, rfl⟩ := hds2
        refine ⟨_, _, rfl, fun σE HE oE => ?_⟩
        obtain ⟨c', hc', nz', e'⟩ : ∃ c' : Int, (-10 < c' ∧ c' < 11) ∧ ¬ (c' = 0 ∧ s' = 0) ∧ c' = (if (!decide (s' = 0) || !decide (c = 0)) = true then c else 1) := by
          refine ⟨_, ?_, ?_, rfl⟩
          · split <;> omega
          · split
            · rename_i h1
              simp at h1
              omega
            · omega
        refine sk_app oE (es_of (d := dq (red c' s')) (ed_call (ea_cons (d := .int c') (ed_if (et_or (et_test (ed_neI (ed_var (i := 13)) ed_int)) fun _ => et_test (ed_neI (ed_var (i := 12)) ed_int)) (fun h => Ed.is (ed_var (i := 12)) (by rw [e', if_pos h])) (fun h => Ed.is ed_int (by rw [e', if_neg (by rw [h]; exact Bool.false_ne_true)]))) (ea_cons (ed_var (i := 13)) ea_nil)) ⟨(c', s'), rfl, ⟨⟨by show -1000000 < c'; omega, by show c' < 1000000; omega⟩, ⟨by show -1000000 < s'; omega, by show s' < 1000000; omega⟩⟩, nz', rfl⟩)) (by omega) fun d HF hd oF => ?_
        subst hd
        refine kN _ _ ⟨_, by rw [List.length_append, hl, List.length_singleton]; omega, fun d hd => ?_, sk_le oF (rE_le (enle_cons (.inl rfl) (enle_cons (.inr rfl) (enle_cons (.inr rfl) (enle_cons (.inl rfl) (enle_cons (.inl rfl) (enle_cons (.inr rfl) (enle_cons (.inl rfl) (enle_cons (.inl rfl) (enle_cons (.inl rfl) (enle_cons (.inl rfl) enle_refl)))))))))))⟩
        rcases List.mem_append.mp hd with z | z
        · exact hW d z
        · rw [List.mem_singleton.mp z]
          exact ⟨_, rfl, red_ok nz' (by omega) (by omega)⟩
      · have en : n = 4 := by
          rw [hds] at hn
          have z := (List.cons.inj hn).1
          have z2 : (4 : Int) = (n : Int) := PyData.int.inj z
          omega
        subst en
        obtain ⟨ds, hl, hW, oD⟩ := hI
        have oD2 := sk_shut oD (Nat.le_of_ble_eq_true rfl)
        have eD : SkS K l G H none (rE rim k [none, some (dp fl), some (dp sd), none, none, some (.str (dueS rim k fl sd)), some (.list ds), none, none, none, none, none, none, none, none]) σD HD := oD2
        have fin : ∀ d, ds[5]? = some d → ∃ air, d = dq air ∧ WndOk air := fun d hd => hW d (List.mem_of_getElem? hd)
        refine sk_forL (vs := [14]) eD (ed_var (i := 10)) (by decide) (fun j => rE rim k [none, some (dp fl), some (dp sd), none, none, some (.str (dueS rim k fl sd)), some (.list ds), none, none, none, (match j with | 0 => none | j + 1 => ds[j]?), (match j with | 0 => none | j + 1 => (ds[j]?).map (onA fun air => .bool (hld rim k fl sd air))), none, none, none]) enle_refl (fun j d hj => ?_) fun σE HE oE => ?_
        · obtain ⟨air, rfl, W⟩ := hW d (List.mem_of_getElem? hj)
          refine ⟨_, gd_in (by decide), fun G0 H0' σE HE N kN oE => ?_⟩
          have mh := m_held B F S W
          have ma := m_all B F S W
          have mn := m_none B F S W
          have oE1 : SkS K l G0 H0' none (rE rim k [none, some (dp fl), some (dp sd), none, none, some (.str (dueS rim k fl sd)), some (.list ds), none, none, none, some (dq air), none, none, none, none]) σE HE := sk_le oE (rE_le (enle_cons (.inl rfl) (enle_cons (.inr rfl) (enle_cons (.inr rfl) (enle_cons (.inl rfl) (enle_cons (.inl rfl) (enle_cons (.inr rfl) (enle_cons (.inr rfl) (enle_cons (.inl rfl) (enle_cons (.inl rfl) (enle_cons (.inl rfl) (enle_cons (.inr rfl) (enle_cons (.inl rfl) enle_refl)))))))))))))
          refine dr_seq (sk_asg oE1 (es_of (hcall _ fl sd air _ _ _ _ F S W (ed_var (i := 1)) (ed_var (i := 5)) (ed_var (i := 6)) (ed_var (i := 14)))) off_none fun d σF HF hd oF => ?_)
          subst hd
          refine dr_seq (sk_if (p := false) oF (Et.is (et_test (ed_neS (ed_reprB (Ed.is (ed_call (ea_cons (ed_var (i := 2)) (ea_cons (ed_var (i := 5)) (ea_cons (ed_var (i := 6)) (ea_cons (ed_var (i := 14)) ea_nil)))) ⟨said rim k, fl, sd, air, rfl, ask, W.1, by have := W.2; unfold AirOk at this; omega, rfl⟩) (by rw [mh]))) (ed_reprB (ed_var (i := 15))))) (eqS _)) (fun e => nomatch e) fun _ HG oG => ?_)
          refine sk_if (p := false) oG (Et.is (et_or (et_and (et_test (ed_eqS (ed_var (i := 9)) ed_str)) fun _ => et_not (et_B (ed_var (i := 15)))) fun _ => et_and (et_test (ed_eqS (ed_var (i := 9)) ed_str)) fun _ => et_B (ed_var (i := 15))) ?_) (fun e => nomatch e) fun _ HI oI => kN _ _ ?_
          · by_cases h1 : dueS rim k fl sd = "all"
            · rw [ma h1, h1]; decide
            · by_cases h2 : dueS rim k fl sd = "none"
              · rw [mn h2, h2]; decide
              · rw [decide_eq_false h1, decide_eq_false h2]; rfl
          · have e1 : (match j + 1 with | 0 => none | j + 1 => ds[j]?) = some (dq air) := hj
            have e2 : (match j + 1 with | 0 => none | j + 1 => (ds[j]?).map (onA fun air => .bool (hld rim k fl sd air))) = some (.bool (hld rim k fl sd air)) := by
              show (ds[j]?).map _ = _
              rw [hj]; rfl
            show SkS K l G0 H0' none (rE rim k [none, some (dp fl), some (dp sd), none, none, some (.str (dueS rim k fl sd)), some (.list ds), none, none, none, ds[j]?, (ds[j]?).map (onA fun air => .bool (hld rim k fl sd air)), none, none, none]) σF HI
            rw [hj]
            exact oI
        · have h5 : 5 < ds.length := by omega
          obtain ⟨air, e5, W⟩ := fin ds[5] (List.getElem?_eq_getElem h5)
          refine kN _ _ (.inr ⟨fl, sd, air, F, S, W, ?_⟩)
          rw [show ds.length = 5 + 1 from by omega] at oE
          refine sk_le oE (rE_le (enle_cons (.inl rfl) (enle_cons (.inr rfl) (enle_cons (.inr rfl) (enle_cons (.inl rfl) (enle_cons (.inl rfl) (enle_cons (.inl rfl) (enle_cons (.inl rfl) (enle_cons (.inl rfl) (enle_cons (.inl rfl) (enle_cons (.inl rfl) (enle_cons (.inr ?_) (enle_cons (.inr ?_) (enle_refl))))))))))))))
          · show ds[5]? = _
            rw [List.getElem?_eq_getElem h5, e5]
          · show (ds[5]?).map _ = _
            rw [List.getElem?_eq_getElem h5, e5]; rfl
    · have en : n = 2 := by
        rw [hds] at hn
        have z := (List.cons.inj hn).1
        have z2 : (2 : Int) = (n : Int) := PyData.int.inj z
        omega
      subst en
      obtain ⟨fl, sd, air, F, S, W, o⟩ := hI.resolve_left fun z => absurd z.1 (by decide)
      have mh := m_held B F S W
      dsimp only
      apply sk_ret (P := fun d => d = .bool true) o
      · apply es_of
        refine Ed.is (ed_eqS (ed_reprB (Ed.is (d := .bool (hiw (said rim k) fl sd air)) (ed_callN (n := 4) gWnd (ea_cons (ed_var (i := 14)) (ea_cons (ed_var (i := 6)) (ea_cons (ed_var (i := 2)) (ea_cons (ed_var (i := 5)) ea_nil)))) rfl (fun G vs h => ?_) ⟨said rim k, fl, sd, air, rfl, m_ask B F S, W.1, by have := W.2; unfold AirOk at this; omega, rfl⟩) (by rw [mh]))) (ed_reprB (ed_var (i := 15)))) (by simp)
        cases h with
        | cons h1 h =>
          cases h with
          | cons h2 h =>
            cases h with
            | cons h3 h =>
              cases h with
              | cons h4 h =>
                cases h
                exact .cons h3 (.cons h4 (.cons h2 (.cons h1 .nil)))
      · exact fun v d G' H' hd => q v d G' H' hd
omit T in
theorem ed_right {es : List (Option PyData)} {ns : List Int} {i : Int} {E E2 : XK} (h0 : es[0]? = some (some (.list (ns.map PyData.int)))) (h1 : es[1]? = some (some (.int i))) (hn : ns.length ≤ 63) (hi : 0 ≤ i ∧ i < 1000) : Ed K (tCall (spS K R__law_right) [] E (tCons (tCall (spK K) [] E2 (tCons (tVar 0) (tCons (tVar 1) tNil))) tNil)) es (.bool true) := fun σ G H hE hS Q k => by
  obtain ⟨v0, e0, d0⟩ := hE.2 0 _ h0
  obtain ⟨v1, e1, d1⟩ := hE.2 1 _ h1
  obtain ⟨a, xs, rfl, hq, ha⟩ := dp_lst d0
  have ex := dps_ints (ns := ns) ha
  subst ex
  cases dp_int d1
  refine ⟨.ref a, e0, .int i, e1, a, ns, i, rfl, hS.seq hq, hn, hi.1, hi.2, fun p H' hp e sk => ?_⟩
  show spS K R__law_right ([.ref p] ++ []) H' Q E
  refine ⟨G, p, [], [], _, rfl, hS.trans e, hS.free hp, sk, .nil, ⟨rfl, rfl⟩, fun v d G2 H2 pd n s dv => k v G2 H2 ⟨n.g, n.s, fun b o eb => ?_, fun l hl gl => n.f l (fun z => hl ?_) gl⟩ (pd ▸ dv)⟩
  · have hb : b ≠ p := ne_of_none eb hp
    obtain ⟨k1, k2⟩ := n.k b o (e b o eb)
    exact ⟨k1, fun _ => k2 (fun z => hb (Option.some.inj z))⟩
  · cases eq : H l with
    | none => rfl
    | some o => rw [e l o eq] at z; cases z
theorem ok_law (D : DefOk K mg "law" s_law p_law) (o__law_right : OkF P w K mg base 11 "_law_right" s__law_right p__law_right (spS K R__law_right)) (o__law_sack : OkF P w K mg base 1 "_law_sack" s__law_sack p__law_sack (spK K)) : OkF P w K mg base 12 "law" s_law p_law (spL K) := by
  refine ok_sp D c_law (fun vs H Q E h => ?_) (fun cdv A outer s H0 E hr => ⟨_, (pss_one (ps_ret (pe_callB (cr_all rfl) (by rfl) T.all bb_all (pa_cons (pe_lc (own := [("_law_turn", 1)]) (g := gName 1) (tt := tYes) rfl c_law.nd (pi_range1 (by rfl) T.range (pa_cons (pe_callB (call_max2 rfl) (by rfl) T.max bb_max (pa_cons pe_int (pa_cons (pe_callB (call_min2 rfl) (by rfl) T.min bb_min (pa_cons (pe_callB call_len_seq (by rfl) T.len bb_len (pa_cons (pv 0) pa_nil)) (pa_cons pe_int pa_nil))) pa_nil))) pa_nil)) (blkOk_by (N := n_law) (sc := defScope s_law) (by decide +kernel)) (fun _ _ _ _ _ => (pg_name (i := 1) c_law.nd rfl (by first | exact Or.inl rfl | exact Or.inr rfl))) (fun _ _ _ _ _ => pts_nil) (fun _ _ _ _ _ => (pe_own o__law_right (hr.mono (by decide)) (by rfl) (pa_cons (pe_own o__law_sack (hr.mono (by decide)) (by rfl) (pa_cons (pv 0) (pa_cons (pv 1) pa_nil))) pa_nil)))) pa_nil)))), fun vs H Q E' h => ?_⟩)
  · obtain ⟨a, ns, rfl, _⟩ := h; rfl
  · obtain ⟨a, ns, rfl, hq, hn, q⟩ := h
    have hE : En K H (L2.start n_law [.ref a]) (sEnv n_law [.list (ns.map PyData.int)]) := dps_env (.cons (.lst hq (ints_dps ns)) .nil)
    obtain ⟨b, hb⟩ : ∃ b : Int, b = (if (3 : Int) < (ns.length : Int) then 3 else (ns.length : Int)) := ⟨_, rfl⟩
    obtain ⟨m, hm⟩ : ∃ m : Int, m = (if b > 2 then b else 2) := ⟨_, rfl⟩
    have m3 : 0 ≤ m ∧ m ≤ 3 := by
      rw [hm, hb]
      split <;> split <;> omega
    have e1 : (List.range m.toNat).map (fun _ => PyData.bool true) = ((List.range m.toNat).map fun _ => true).map PyData.bool := by rw [List.map_map]; rfl
    have z := bc_all (K := K) (bs := (List.range m.toNat).map fun _ => true)
    rw [← e1] at z
    have e2 : ((List.range m.toNat).map fun _ => true).all id = true := by simp
    rw [e2] at z
    refine st_ret (d := .bool true) (ed_cb (ea_cons (ed_lcR (n := m) (fun _ => .bool true) (ea_cons (Ed.is (ed_cb (ea_cons ed_int (ea_cons (Ed.is (ed_cb (ea_cons (ed_lenL ed_var (by rw [List.length_map])) (ea_cons ed_int ea_nil)) bc_min2) (congrArg PyData.int hb.symm)) ea_nil)) bc_max2) (congrArg PyData.int hm.symm)) ea_nil) m3.1 (by omega) fun i hi => ⟨_, gd_in (by decide), ed_right rfl rfl hn ⟨by omega, by omega⟩⟩) ea_nil) z) _ H H _ hE (Same.refl H) fun v G' H' n dv => ?_
    cases dp_bl dv
    exact q H'
end
end Wf
set_option Elab.async false
set_option linter.all false
set_option maxRecDepth 100000
set_option maxHeartbeats 2000000
/-! the whole joined (printed by gen_join.py) -/
namespace Wf
open PySem PySem.Spec PyProof.Rows L2
section
variable {K : PySem.W.Frag} {h : Heap} {mg : Str → Option Value}
theorem dok_is_lower (X : K.In h) (G : h.Ns mainGlobals mg) (c : He.SaysD fa fn K) : DefOk K mg "is_lower" s_is_lower p_is_lower := by
  obtain ⟨fd, F⟩ := c.def_ 7
  exact ⟨fd, F, He.glo_ok X G (c.fact 7), F.bindsN fun kV doc pm an cdv ct us hl => by
    match us, hl with
    | [a0, a1], _ => rfl⟩
theorem dok_common_divisor (X : K.In h) (G : h.Ns mainGlobals mg) (c : He.SaysD fa fn K) : DefOk K mg "common_divisor" s_common_divisor p_common_divisor := by
  obtain ⟨fd, F⟩ := c.def_ 2
  exact ⟨fd, F, He.glo_ok X G (c.fact 2), F.bindsN fun kV doc pm an cdv ct us hl => by
    match us, hl with
    | [a0], _ => rfl⟩
theorem dok_lowest (X : K.In h) (G : h.Ns mainGlobals mg) (c : He.SaysD fa fn K) : DefOk K mg "lowest" s_lowest p_lowest := by
  obtain ⟨fd, F⟩ := c.def_ 3
  exact ⟨fd, F, He.glo_ok X G (c.fact 3), F.bindsN fun kV doc pm an cdv ct us hl => by
    match us, hl with
    | [a0], _ => rfl⟩
theorem dok_ratio (X : K.In h) (G : h.Ns mainGlobals mg) (c : He.SaysD fa fn K) : DefOk K mg "ratio" s_ratio p_ratio := by
  obtain ⟨fd, F⟩ := c.def_ 5
  exact ⟨fd, F, He.glo_ok X G (c.fact 5), F.bindsN fun kV doc pm an cdv ct us hl => by
    match us, hl with
    | [a0, a1], _ => rfl⟩
theorem dok_ratio_product (X : K.In h) (G : h.Ns mainGlobals mg) (c : He.SaysD fa fn K) : DefOk K mg "ratio_product" s_ratio_product p_ratio_product := by
  obtain ⟨fd, F⟩ := c.def_ 6
  exact ⟨fd, F, He.glo_ok X G (c.fact 6), F.bindsN fun kV doc pm an cdv ct us hl => by
    match us, hl with
    | [a0, a1], _ => rfl⟩
theorem dok_along (X : K.In h) (G : h.Ns mainGlobals mg) (c : He.SaysD fa fn K) : DefOk K mg "along" s_along p_along := by
  obtain ⟨fd, F⟩ := c.def_ 10
  exact ⟨fd, F, He.glo_ok X G (c.fact 10), F.bindsN fun kV doc pm an cdv ct us hl => by
    match us, hl with
    | [a0, a1], _ => rfl⟩
theorem dok_support (X : K.In h) (G : h.Ns mainGlobals mg) (c : He.SaysD fa fn K) : DefOk K mg "support" s_support p_support := by
  obtain ⟨fd, F⟩ := c.def_ 24
  exact ⟨fd, F, He.glo_ok X G (c.fact 24), F.bindsN fun kV doc pm an cdv ct us hl => by
    match us, hl with
    | [a0, a1], _ => rfl⟩
theorem dok_is_lowest (X : K.In h) (G : h.Ns mainGlobals mg) (c : He.SaysD fa fn K) : DefOk K mg "is_lowest" s_is_lowest p_is_lowest := by
  obtain ⟨fd, F⟩ := c.def_ 4
  exact ⟨fd, F, He.glo_ok X G (c.fact 4), F.bindsN fun kV doc pm an cdv ct us hl => by
    match us, hl with
    | [a0], _ => rfl⟩
theorem dok_is_whole (X : K.In h) (G : h.Ns mainGlobals mg) (c : He.SaysD fa fn K) : DefOk K mg "is_whole" s_is_whole p_is_whole := by
  obtain ⟨fd, F⟩ := c.def_ 0
  exact ⟨fd, F, He.glo_ok X G (c.fact 0), F.bindsN fun kV doc pm an cdv ct us hl => by
    match us, hl with
    | [a0], _ => rfl⟩
theorem dok_are_wholes (X : K.In h) (G : h.Ns mainGlobals mg) (c : He.SaysD fa fn K) : DefOk K mg "are_wholes" s_are_wholes p_are_wholes := by
  obtain ⟨fd, F⟩ := c.def_ 1
  exact ⟨fd, F, He.glo_ok X G (c.fact 1), F.bindsN fun kV doc pm an cdv ct us hl => by
    match us, hl with
    | [a0, a1], _ => rfl⟩
theorem dok_is_pointing (X : K.In h) (G : h.Ns mainGlobals mg) (c : He.SaysD fa fn K) : DefOk K mg "is_pointing" s_is_pointing p_is_pointing := by
  obtain ⟨fd, F⟩ := c.def_ 11
  exact ⟨fd, F, He.glo_ok X G (c.fact 11), F.bindsN fun kV doc pm an cdv ct us hl => by
    match us, hl with
    | [a0], _ => rfl⟩
theorem dok_is_border (X : K.In h) (G : h.Ns mainGlobals mg) (c : He.SaysD fa fn K) : DefOk K mg "is_border" s_is_border p_is_border := by
  obtain ⟨fd, F⟩ := c.def_ 12
  exact ⟨fd, F, He.glo_ok X G (c.fact 12), F.bindsN fun kV doc pm an cdv ct us hl => by
    match us, hl with
    | [a0], _ => rfl⟩
theorem dok_check_side (X : K.In h) (G : h.Ns mainGlobals mg) (c : He.SaysD fa fn K) : DefOk K mg "check_side" s_check_side p_check_side := by
  obtain ⟨fd, F⟩ := c.def_ 26
  exact ⟨fd, F, He.glo_ok X G (c.fact 26), F.bindsN fun kV doc pm an cdv ct us hl => by
    match us, hl with
    | [a0], _ => rfl⟩
theorem dok_is_vector (X : K.In h) (G : h.Ns mainGlobals mg) (c : He.SaysD fa fn K) : DefOk K mg "is_vector" s_is_vector p_is_vector := by
  obtain ⟨fd, F⟩ := c.def_ 8
  exact ⟨fd, F, He.glo_ok X G (c.fact 8), F.bindsN fun kV doc pm an cdv ct us hl => by
    match us, hl with
    | [a0], _ => rfl⟩
theorem dok_check_point (X : K.In h) (G : h.Ns mainGlobals mg) (c : He.SaysD fa fn K) : DefOk K mg "check_point" s_check_point p_check_point := by
  obtain ⟨fd, F⟩ := c.def_ 25
  exact ⟨fd, F, He.glo_ok X G (c.fact 25), F.bindsN fun kV doc pm an cdv ct us hl => by
    match us, hl with
    | [a0], _ => rfl⟩
theorem dok_value_at (X : K.In h) (G : h.Ns mainGlobals mg) (c : He.SaysD fa fn K) : DefOk K mg "value_at" s_value_at p_value_at := by
  obtain ⟨fd, F⟩ := c.def_ 15
  exact ⟨fd, F, He.glo_ok X G (c.fact 15), F.bindsN fun kV doc pm an cdv ct us hl => by
    match us, hl with
    | [a0, a1], _ => rfl⟩
theorem dok_are_held (X : K.In h) (G : h.Ns mainGlobals mg) (c : He.SaysD fa fn K) : DefOk K mg "are_held" s_are_held p_are_held := by
  obtain ⟨fd, F⟩ := c.def_ 16
  exact ⟨fd, F, He.glo_ok X G (c.fact 16), F.bindsN fun kV doc pm an cdv ct us hl => by
    match us, hl with
    | [a0, a1], _ => rfl⟩
theorem dok_side_at (X : K.In h) (G : h.Ns mainGlobals mg) (c : He.SaysD fa fn K) : DefOk K mg "side_at" s_side_at p_side_at := by
  obtain ⟨fd, F⟩ := c.def_ 13
  exact ⟨fd, F, He.glo_ok X G (c.fact 13), F.bindsN fun kV doc pm an cdv ct us hl => by
    match us, hl with
    | [a0, a1], _ => rfl⟩
theorem dok_step_between (X : K.In h) (G : h.Ns mainGlobals mg) (c : He.SaysD fa fn K) : DefOk K mg "step_between" s_step_between p_step_between := by
  obtain ⟨fd, F⟩ := c.def_ 9
  exact ⟨fd, F, He.glo_ok X G (c.fact 9), F.bindsN fun kV doc pm an cdv ct us hl => by
    match us, hl with
    | [a0, a1], _ => rfl⟩
theorem dok_side_left (X : K.In h) (G : h.Ns mainGlobals mg) (c : He.SaysD fa fn K) : DefOk K mg "side_left" s_side_left p_side_left := by
  obtain ⟨fd, F⟩ := c.def_ 14
  exact ⟨fd, F, He.glo_ok X G (c.fact 14), F.bindsN fun kV doc pm an cdv ct us hl => by
    match us, hl with
    | [a0, a1], _ => rfl⟩
theorem dok_next_corner (X : K.In h) (G : h.Ns mainGlobals mg) (c : He.SaysD fa fn K) : DefOk K mg "next_corner" s_next_corner p_next_corner := by
  obtain ⟨fd, F⟩ := c.def_ 21
  exact ⟨fd, F, He.glo_ok X G (c.fact 21), F.bindsN fun kV doc pm an cdv ct us hl => by
    match us, hl with
    | [a0, a1], _ => rfl⟩
theorem dok_sides (X : K.In h) (G : h.Ns mainGlobals mg) (c : He.SaysD fa fn K) : DefOk K mg "sides" s_sides p_sides := by
  obtain ⟨fd, F⟩ := c.def_ 22
  exact ⟨fd, F, He.glo_ok X G (c.fact 22), F.bindsN fun kV doc pm an cdv ct us hl => by
    match us, hl with
    | [a0], _ => rfl⟩
theorem dok_has (X : K.In h) (G : h.Ns mainGlobals mg) (c : He.SaysD fa fn K) : DefOk K mg "has" s_has p_has := by
  obtain ⟨fd, F⟩ := c.def_ 23
  exact ⟨fd, F, He.glo_ok X G (c.fact 23), F.bindsN fun kV doc pm an cdv ct us hl => by
    match us, hl with
    | [a0, a1], _ => rfl⟩
theorem dok_is_left (X : K.In h) (G : h.Ns mainGlobals mg) (c : He.SaysD fa fn K) : DefOk K mg "is_left" s_is_left p_is_left := by
  obtain ⟨fd, F⟩ := c.def_ 18
  exact ⟨fd, F, He.glo_ok X G (c.fact 18), F.bindsN fun kV doc pm an cdv ct us hl => by
    match us, hl with
    | [a0, a1, a2], _ => rfl⟩
theorem dok_chain (X : K.In h) (G : h.Ns mainGlobals mg) (c : He.SaysD fa fn K) : DefOk K mg "chain" s_chain p_chain := by
  obtain ⟨fd, F⟩ := c.def_ 17
  exact ⟨fd, F, He.glo_ok X G (c.fact 17), F.bindsN fun kV doc pm an cdv ct us hl => by
    match us, hl with
    | [a0], _ => rfl⟩
theorem dok_hull (X : K.In h) (G : h.Ns mainGlobals mg) (c : He.SaysD fa fn K) : DefOk K mg "hull" s_hull p_hull := by
  obtain ⟨fd, F⟩ := c.def_ 19
  exact ⟨fd, F, He.glo_ok X G (c.fact 19), F.bindsN fun kV doc pm an cdv ct us hl => by
    match us, hl with
    | [a0], _ => rfl⟩
theorem dok_is_shape (X : K.In h) (G : h.Ns mainGlobals mg) (c : He.SaysD fa fn K) : DefOk K mg "is_shape" s_is_shape p_is_shape := by
  obtain ⟨fd, F⟩ := c.def_ 20
  exact ⟨fd, F, He.glo_ok X G (c.fact 20), F.bindsN fun kV doc pm an cdv ct us hl => by
    match us, hl with
    | [a0], _ => rfl⟩
theorem dok_is_sailed (X : K.In h) (G : h.Ns mainGlobals mg) (c : He.SaysD fa fn K) : DefOk K mg "is_sailed" s_is_sailed p_is_sailed := by
  obtain ⟨fd, F⟩ := c.def_ 27
  exact ⟨fd, F, He.glo_ok X G (c.fact 27), F.bindsN fun kV doc pm an cdv ct us hl => by
    match us, hl with
    | [a0], _ => rfl⟩
theorem dok_check_figure (X : K.In h) (G : h.Ns mainGlobals mg) (c : He.SaysD fa fn K) : DefOk K mg "check_figure" s_check_figure p_check_figure := by
  obtain ⟨fd, F⟩ := c.def_ 28
  exact ⟨fd, F, He.glo_ok X G (c.fact 28), F.bindsN fun kV doc pm an cdv ct us hl => by
    match us, hl with
    | [a0], _ => rfl⟩
theorem dok_check_drift (X : K.In h) (G : h.Ns mainGlobals mg) (c : He.SaysD fa fn K) : DefOk K mg "check_drift" s_check_drift p_check_drift := by
  obtain ⟨fd, F⟩ := c.def_ 29
  exact ⟨fd, F, He.glo_ok X G (c.fact 29), F.bindsN fun kV doc pm an cdv ct us hl => by
    match us, hl with
    | [a0, a1, a2], _ => rfl⟩
theorem dok_holds_in_wind (X : K.In h) (G : h.Ns mainGlobals mg) (c : He.SaysD fa fn K) : DefOk K mg "holds_in_wind" s_holds_in_wind p_holds_in_wind := by
  obtain ⟨fd, F⟩ := c.def_ 30
  exact ⟨fd, F, He.glo_ok X G (c.fact 30), F.bindsN fun kV doc pm an cdv ct us hl => by
    match us, hl with
    | [a0, a1, a2, a3], _ => rfl⟩
theorem dok__law_is_held (X : K.In h) (G : h.Ns mainGlobals mg) (c : He.SaysD fa fn K) : DefOk K mg "_law_is_held" s__law_is_held p__law_is_held := by
  obtain ⟨fd, F⟩ := c.def_ 44
  exact ⟨fd, F, He.glo_ok X G (c.fact 44), F.bindsN fun kV doc pm an cdv ct us hl => by
    match us, hl with
    | [a0, a1, a2, a3], _ => rfl⟩
theorem dok__law_gcd (X : K.In h) (G : h.Ns mainGlobals mg) (c : He.SaysD fa fn K) : DefOk K mg "_law_gcd" s__law_gcd p__law_gcd := by
  obtain ⟨fd, F⟩ := c.def_ 35
  exact ⟨fd, F, He.glo_ok X G (c.fact 35), F.bindsN fun kV doc pm an cdv ct us hl => by
    match us, hl with
    | [a0, a1], _ => rfl⟩
theorem dok__law_wind (X : K.In h) (G : h.Ns mainGlobals mg) (c : He.SaysD fa fn K) : DefOk K mg "_law_wind" s__law_wind p__law_wind := by
  obtain ⟨fd, F⟩ := c.def_ 43
  exact ⟨fd, F, He.glo_ok X G (c.fact 43), F.bindsN fun kV doc pm an cdv ct us hl => by
    match us, hl with
    | [a0, a1], _ => rfl⟩
theorem dok__law_draw (X : K.In h) (G : h.Ns mainGlobals mg) (c : He.SaysD fa fn K) : DefOk K mg "_law_draw" s__law_draw p__law_draw := by
  obtain ⟨fd, F⟩ := c.def_ 33
  exact ⟨fd, F, He.glo_ok X G (c.fact 33), F.bindsN fun kV doc pm an cdv ct us hl => by
    match us, hl with
    | [a0, a1], _ => rfl⟩
theorem dok__law_one (X : K.In h) (G : h.Ns mainGlobals mg) (c : He.SaysD fa fn K) : DefOk K mg "_law_one" s__law_one p__law_one := by
  obtain ⟨fd, F⟩ := c.def_ 34
  exact ⟨fd, F, He.glo_ok X G (c.fact 34), F.bindsN fun kV doc pm an cdv ct us hl => by
    match us, hl with
    | [a0, a1], _ => rfl⟩
theorem dok_winds_off (X : K.In h) (G : h.Ns mainGlobals mg) (c : He.SaysD fa fn K) : DefOk K mg "winds_off" s_winds_off p_winds_off := by
  obtain ⟨fd, F⟩ := c.def_ 31
  exact ⟨fd, F, He.glo_ok X G (c.fact 31), F.bindsN fun kV doc pm an cdv ct us hl => by
    match us, hl with
    | [a0, a1, a2], _ => rfl⟩
theorem dok__law_against (X : K.In h) (G : h.Ns mainGlobals mg) (c : He.SaysD fa fn K) : DefOk K mg "_law_against" s__law_against p__law_against := by
  obtain ⟨fd, F⟩ := c.def_ 45
  exact ⟨fd, F, He.glo_ok X G (c.fact 45), F.bindsN fun kV doc pm an cdv ct us hl => by
    match us, hl with
    | [a0, a1, a2], _ => rfl⟩
theorem dok__law_side (X : K.In h) (G : h.Ns mainGlobals mg) (c : He.SaysD fa fn K) : DefOk K mg "_law_side" s__law_side p__law_side := by
  obtain ⟨fd, F⟩ := c.def_ 42
  exact ⟨fd, F, He.glo_ok X G (c.fact 42), F.bindsN fun kV doc pm an cdv ct us hl => by
    match us, hl with
    | [a0], _ => rfl⟩
theorem dok__law_spot (X : K.In h) (G : h.Ns mainGlobals mg) (c : He.SaysD fa fn K) : DefOk K mg "_law_spot" s__law_spot p__law_spot := by
  obtain ⟨fd, F⟩ := c.def_ 36
  exact ⟨fd, F, He.glo_ok X G (c.fact 36), F.bindsN fun kV doc pm an cdv ct us hl => by
    match us, hl with
    | [a0, a1, a2], _ => rfl⟩
theorem dok__law_said (X : K.In h) (G : h.Ns mainGlobals mg) (c : He.SaysD fa fn K) : DefOk K mg "_law_said" s__law_said p__law_said := by
  obtain ⟨fd, F⟩ := c.def_ 37
  exact ⟨fd, F, He.glo_ok X G (c.fact 37), F.bindsN fun kV doc pm an cdv ct us hl => by
    match us, hl with
    | [a0, a1], _ => rfl⟩
theorem dok__law_bend (X : K.In h) (G : h.Ns mainGlobals mg) (c : He.SaysD fa fn K) : DefOk K mg "_law_bend" s__law_bend p__law_bend := by
  obtain ⟨fd, F⟩ := c.def_ 38
  exact ⟨fd, F, He.glo_ok X G (c.fact 38), F.bindsN fun kV doc pm an cdv ct us hl => by
    match us, hl with
    | [a0, a1, a2], _ => rfl⟩
theorem dok__law_chain (X : K.In h) (G : h.Ns mainGlobals mg) (c : He.SaysD fa fn K) : DefOk K mg "_law_chain" s__law_chain p__law_chain := by
  obtain ⟨fd, F⟩ := c.def_ 39
  exact ⟨fd, F, He.glo_ok X G (c.fact 39), F.bindsN fun kV doc pm an cdv ct us hl => by
    match us, hl with
    | [a0], _ => rfl⟩
theorem dok__law_rim (X : K.In h) (G : h.Ns mainGlobals mg) (c : He.SaysD fa fn K) : DefOk K mg "_law_rim" s__law_rim p__law_rim := by
  obtain ⟨fd, F⟩ := c.def_ 40
  exact ⟨fd, F, He.glo_ok X G (c.fact 40), F.bindsN fun kV doc pm an cdv ct us hl => by
    match us, hl with
    | [a0], _ => rfl⟩
theorem dok__law_boat (X : K.In h) (G : h.Ns mainGlobals mg) (c : He.SaysD fa fn K) : DefOk K mg "_law_boat" s__law_boat p__law_boat := by
  obtain ⟨fd, F⟩ := c.def_ 41
  exact ⟨fd, F, He.glo_ok X G (c.fact 41), F.bindsN fun kV doc pm an cdv ct us hl => by
    match us, hl with
    | [a0], _ => rfl⟩
theorem dok__law_right (X : K.In h) (G : h.Ns mainGlobals mg) (c : He.SaysD fa fn K) : DefOk K mg "_law_right" s__law_right p__law_right := by
  obtain ⟨fd, F⟩ := c.def_ 46
  exact ⟨fd, F, He.glo_ok X G (c.fact 46), F.bindsN fun kV doc pm an cdv ct us hl => by
    match us, hl with
    | [a0], _ => rfl⟩
theorem dok__law_sack (X : K.In h) (G : h.Ns mainGlobals mg) (c : He.SaysD fa fn K) : DefOk K mg "_law_sack" s__law_sack p__law_sack := by
  obtain ⟨fd, F⟩ := c.def_ 32
  exact ⟨fd, F, He.glo_ok X G (c.fact 32), F.bindsN fun kV doc pm an cdv ct us hl => by
    match us, hl with
    | [a0, a1], _ => rfl⟩
theorem dok_law (X : K.In h) (G : h.Ns mainGlobals mg) (c : He.SaysD fa fn K) : DefOk K mg "law" s_law p_law := by
  obtain ⟨fd, F⟩ := c.def_ 47
  exact ⟨fd, F, He.glo_ok X G (c.fact 47), F.bindsN fun kV doc pm an cdv ct us hl => by
    match us, hl with
    | [a0], _ => rfl⟩
theorem blt_of (X : K.In h) (G : h.Ns mainGlobals mg) (c : He.SaysD fa fn K) (x : exB K = true) : Blt K mg := by
  obtain ⟨x12, x34⟩ := He.ba x
  obtain ⟨x1, x2⟩ := He.ba x12
  obtain ⟨x3, x4⟩ := He.ba x34
  have f_abs : mg "abs" = none := He.free_ok X G (c.fact 48)
  have f_all : mg "all" = none := He.free_ok X G (c.fact 49)
  have f_any : mg "any" = none := He.free_ok X G (c.fact 50)
  have f_divmod : mg "divmod" = none := He.free_ok X G (c.fact 51)
  have f_enumerate : mg "enumerate" = none := He.free_ok X G (c.fact 52)
  have f_int : mg "int" = none := He.free_ok X G (c.fact 53)
  have f_isinstance : mg "isinstance" = none := He.free_ok X G (c.fact 54)
  have f_len : mg "len" = none := He.free_ok X G (c.fact 55)
  have f_list : mg "list" = none := He.free_ok X G (c.fact 56)
  have f_max : mg "max" = none := He.free_ok X G (c.fact 57)
  have f_min : mg "min" = none := He.free_ok X G (c.fact 58)
  have f_range : mg "range" = none := He.free_ok X G (c.fact 59)
  have f_repr : mg "repr" = none := He.free_ok X G (c.fact 60)
  have f_set : mg "set" = none := He.free_ok X G (c.fact 61)
  have f_sorted : mg "sorted" = none := He.free_ok X G (c.fact 62)
  have f_tuple : mg "tuple" = none := He.free_ok X G (c.fact 63)
  have f_bool : mg "bool" = none := He.free_ok X G (c.fact 64)
  exact { abs := f_abs, all := f_all, any := f_any, divmod := f_divmod, enumerate := f_enumerate, int := f_int, isinstance := f_isinstance, len := f_len, list := f_list, max := f_max, min := f_min, range := f_range, repr := f_repr, set := f_set, sorted := f_sorted, tuple := f_tuple, bool := f_bool, gcd := PySem.W.mg_of X G (He.eqO_ok x1), lcm := PySem.W.mg_of X G (He.eqO_ok x2), nought := PySem.W.mg_of X G (He.eqO_ok x3), nought3 := fun H => He.tupB_ok x4 H }
theorem fnp_one {x : Str} {st : Stmt} {f : Addr} {fd fd' : FuncData} (F : FnP K x st f fd) (F' : FnP K x st f fd') : fd = fd' := by
  obtain ⟨a, b, dV, kV, doc, pm, an, cdv, ct, osl, _, lk, _⟩ := F.ex
  obtain ⟨a', b', dV', kV', doc', pm', an', cdv', ct', osl', _, lk', _⟩ := F'.ex
  rw [lk] at lk'
  have z := Option.some.inj lk'
  injection z with z1 z2 z3 z4
  injection z3
end
end Wf
open PySem PySem.Spec PyProof.Rows L2 Wf
theorem PySem.Challenge.cw_windfigure_k59_whole_shores_in_all_winds_holds : PySem.Challenge.rw_windfigure_k59_whole_shores_in_all_winds.Holds := by
  refine Wf.head_of fun w mg fa h K X G hl C => ?_
  have c := C.d
  have T := blt_of X G c C.x
  obtain ⟨fd, F, hm, hb⟩ := dok_law X G c
  have ef : fa = He.ga K "law" := by
    rw [hm] at hl
    exact (Value.ref.inj (Option.some.inj hl)).symm
  subst ef
  refine ⟨fd, spL K, fun s u => F.bindsA (ps := ["_law_script"]) (fun kV doc pm an cdv ct us hl => by
    match us, hl with
    | [a], _ => rfl) s [u] rfl, fun H a ns hlen hS => ⟨a, ns, rfl, hS, hlen, fun _ => rfl⟩, fun base hK hN => ?_⟩
  have o_is_lower := ok_is_lower (P := (PySem.Challenge.rw_windfigure_k59_whole_shores_in_all_winds).prog) (w := w) (base := base) T (dok_is_lower X G c) 
  have o_common_divisor := ok_common_divisor (P := (PySem.Challenge.rw_windfigure_k59_whole_shores_in_all_winds).prog) (w := w) (base := base) T (dok_common_divisor X G c) 
  have o_lowest := ok_lowest (P := (PySem.Challenge.rw_windfigure_k59_whole_shores_in_all_winds).prog) (w := w) (base := base) T (dok_lowest X G c) o_common_divisor
  have o_ratio := ok_ratio (P := (PySem.Challenge.rw_windfigure_k59_whole_shores_in_all_winds).prog) (w := w) (base := base) T (dok_ratio X G c) o_lowest
  have o_ratio_product := ok_ratio_product (P := (PySem.Challenge.rw_windfigure_k59_whole_shores_in_all_winds).prog) (w := w) (base := base) T (dok_ratio_product X G c) o_ratio
  have o_along := ok_along (P := (PySem.Challenge.rw_windfigure_k59_whole_shores_in_all_winds).prog) (w := w) (base := base) T (dok_along X G c) o_ratio
  have o_support := ok_support (P := (PySem.Challenge.rw_windfigure_k59_whole_shores_in_all_winds).prog) (w := w) (base := base) T (dok_support X G c) o_is_lower o_along
  have o_is_lowest := ok_is_lowest (P := (PySem.Challenge.rw_windfigure_k59_whole_shores_in_all_winds).prog) (w := w) (base := base) T (dok_is_lowest X G c) o_common_divisor
  have o_is_whole := ok_is_whole (P := (PySem.Challenge.rw_windfigure_k59_whole_shores_in_all_winds).prog) (w := w) (base := base) T (dok_is_whole X G c) 
  have o_are_wholes := ok_are_wholes (P := (PySem.Challenge.rw_windfigure_k59_whole_shores_in_all_winds).prog) (w := w) (base := base) T (dok_are_wholes X G c) o_is_whole
  have o_is_pointing := ok_is_pointing (P := (PySem.Challenge.rw_windfigure_k59_whole_shores_in_all_winds).prog) (w := w) (base := base) T (dok_is_pointing X G c) o_is_lowest o_are_wholes
  have o_is_border := ok_is_border (P := (PySem.Challenge.rw_windfigure_k59_whole_shores_in_all_winds).prog) (w := w) (base := base) T (dok_is_border X G c) o_is_lowest o_are_wholes
  have o_check_side := ok_check_side (P := (PySem.Challenge.rw_windfigure_k59_whole_shores_in_all_winds).prog) (w := w) (base := base) T (dok_check_side X G c) o_is_border
  have o_is_vector := ok_is_vector (P := (PySem.Challenge.rw_windfigure_k59_whole_shores_in_all_winds).prog) (w := w) (base := base) T (dok_is_vector X G c) o_is_lowest o_are_wholes
  have o_check_point := ok_check_point (P := (PySem.Challenge.rw_windfigure_k59_whole_shores_in_all_winds).prog) (w := w) (base := base) T (dok_check_point X G c) o_is_vector
  have o_value_at := ok_value_at (P := (PySem.Challenge.rw_windfigure_k59_whole_shores_in_all_winds).prog) (w := w) (base := base) T (dok_value_at X G c) 
  have o_are_held := ok_are_held (P := (PySem.Challenge.rw_windfigure_k59_whole_shores_in_all_winds).prog) (w := w) (base := base) T (dok_are_held X G c) o_value_at
  have o_side_at := ok_side_at (P := (PySem.Challenge.rw_windfigure_k59_whole_shores_in_all_winds).prog) (w := w) (base := base) T (dok_side_at X G c) o_lowest
  have o_step_between := ok_step_between (P := (PySem.Challenge.rw_windfigure_k59_whole_shores_in_all_winds).prog) (w := w) (base := base) T (dok_step_between X G c) 
  have o_side_left := ok_side_left (P := (PySem.Challenge.rw_windfigure_k59_whole_shores_in_all_winds).prog) (w := w) (base := base) T (dok_side_left X G c) o_side_at o_step_between
  have o_next_corner := ok_next_corner (P := (PySem.Challenge.rw_windfigure_k59_whole_shores_in_all_winds).prog) (w := w) (base := base) T (dok_next_corner X G c) 
  have o_sides := ok_sides (P := (PySem.Challenge.rw_windfigure_k59_whole_shores_in_all_winds).prog) (w := w) (base := base) T (dok_sides X G c) o_side_left o_next_corner
  have o_has := ok_has (P := (PySem.Challenge.rw_windfigure_k59_whole_shores_in_all_winds).prog) (w := w) (base := base) T (dok_has X G c) o_are_held o_sides
  have o_is_left := ok_is_left (P := (PySem.Challenge.rw_windfigure_k59_whole_shores_in_all_winds).prog) (w := w) (base := base) T (dok_is_left X G c) 
  have o_chain := ok_chain (P := (PySem.Challenge.rw_windfigure_k59_whole_shores_in_all_winds).prog) (w := w) (base := base) T (dok_chain X G c) o_is_left
  have o_hull := ok_hull (P := (PySem.Challenge.rw_windfigure_k59_whole_shores_in_all_winds).prog) (w := w) (base := base) T (dok_hull X G c) o_lowest o_chain
  have o_is_shape := ok_is_shape (P := (PySem.Challenge.rw_windfigure_k59_whole_shores_in_all_winds).prog) (w := w) (base := base) T (dok_is_shape X G c) o_hull o_is_vector
  have o_is_sailed := ok_is_sailed (P := (PySem.Challenge.rw_windfigure_k59_whole_shores_in_all_winds).prog) (w := w) (base := base) T (dok_is_sailed X G c) o_has o_is_shape
  have o_check_figure := ok_check_figure (P := (PySem.Challenge.rw_windfigure_k59_whole_shores_in_all_winds).prog) (w := w) (base := base) T (dok_check_figure X G c) o_is_sailed
  have o_check_drift := ok_check_drift (P := (PySem.Challenge.rw_windfigure_k59_whole_shores_in_all_winds).prog) (w := w) (base := base) T (dok_check_drift X G c) o_check_side o_check_point o_check_figure
  have o_holds_in_wind := ok_holds_in_wind (P := (PySem.Challenge.rw_windfigure_k59_whole_shores_in_all_winds).prog) (w := w) (base := base) T (dok_holds_in_wind X G c) o_is_lower o_ratio_product o_support o_along o_is_pointing o_check_drift
  have o__law_is_held := ok__law_is_held (P := (PySem.Challenge.rw_windfigure_k59_whole_shores_in_all_winds).prog) (w := w) (base := base) T (dok__law_is_held X G c) 
  have o__law_gcd := ok__law_gcd (P := (PySem.Challenge.rw_windfigure_k59_whole_shores_in_all_winds).prog) (w := w) (base := base) T (dok__law_gcd X G c) 
  have o__law_wind := ok__law_wind (P := (PySem.Challenge.rw_windfigure_k59_whole_shores_in_all_winds).prog) (w := w) (base := base) T (dok__law_wind X G c) o__law_gcd
  have o__law_draw := ok__law_draw (P := (PySem.Challenge.rw_windfigure_k59_whole_shores_in_all_winds).prog) (w := w) (base := base) T (dok__law_draw X G c) 
  have o__law_one := ok__law_one (P := (PySem.Challenge.rw_windfigure_k59_whole_shores_in_all_winds).prog) (w := w) (base := base) T (dok__law_one X G c) o__law_draw
  have o_winds_off := ok_winds_off (P := (PySem.Challenge.rw_windfigure_k59_whole_shores_in_all_winds).prog) (w := w) (base := base) T (dok_winds_off X G c) o_sides o_along o_check_drift
  have o__law_against := ok__law_against (P := (PySem.Challenge.rw_windfigure_k59_whole_shores_in_all_winds).prog) (w := w) (base := base) T (dok__law_against X G c) o__law_wind
  have o__law_side := ok__law_side (P := (PySem.Challenge.rw_windfigure_k59_whole_shores_in_all_winds).prog) (w := w) (base := base) T (dok__law_side X G c) o__law_gcd o__law_draw
  have o__law_spot := ok__law_spot (P := (PySem.Challenge.rw_windfigure_k59_whole_shores_in_all_winds).prog) (w := w) (base := base) T (dok__law_spot X G c) o__law_gcd
  have o__law_said := ok__law_said (P := (PySem.Challenge.rw_windfigure_k59_whole_shores_in_all_winds).prog) (w := w) (base := base) T (dok__law_said X G c) o__law_spot
  have o__law_bend := ok__law_bend (P := (PySem.Challenge.rw_windfigure_k59_whole_shores_in_all_winds).prog) (w := w) (base := base) T (dok__law_bend X G c) 
  have o__law_chain := ok__law_chain (P := (PySem.Challenge.rw_windfigure_k59_whole_shores_in_all_winds).prog) (w := w) (base := base) T (dok__law_chain X G c) o__law_bend
  have o__law_rim := ok__law_rim (P := (PySem.Challenge.rw_windfigure_k59_whole_shores_in_all_winds).prog) (w := w) (base := base) T (dok__law_rim X G c) o__law_chain
  have o__law_boat := ok__law_boat (P := (PySem.Challenge.rw_windfigure_k59_whole_shores_in_all_winds).prog) (w := w) (base := base) T (dok__law_boat X G c) o__law_draw o__law_rim o__law_one
  have o__law_right := ok__law_right (P := (PySem.Challenge.rw_windfigure_k59_whole_shores_in_all_winds).prog) (w := w) (base := base) T (dok__law_right X G c) o_holds_in_wind o__law_is_held o__law_wind o__law_draw o__law_one o_winds_off o__law_against o__law_side o__law_spot o__law_said o__law_boat
  have o__law_sack := ok__law_sack (P := (PySem.Challenge.rw_windfigure_k59_whole_shores_in_all_winds).prog) (w := w) (base := base) T (dok__law_sack X G c) 
  have o_law := ok_law (P := (PySem.Challenge.rw_windfigure_k59_whole_shores_in_all_winds).prog) (w := w) (base := base) T (dok_law X G c) o__law_right o__law_sack
  obtain ⟨fd', F', FF, _, _⟩ := o_law
  have e := fnp_one F FF
  subst e
  exact F'.mono (by decide)
