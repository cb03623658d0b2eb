import PyProof.Rows.All
import Wide.All
import OpenK.AllK
import Wide.FinOn
import KE.KStateDown
import Lean
import HandS.ForMost
import HandS.Defaults
import HandS.Nested
import HandS.IsInst
import HandS.TupSets
import HandS.CallLocal
import HandS.Codes
import HandS.Head0
import HandS.Head1
import HandS.Head2
import HandS.HeadHook1
import HandS.HeadHook2
import HandS.HeadHook3
import HandS.HeadHook4
import HandS.HeadWalk
import PySem.Challenge.RW_pixelstages_k22_whole_ranks_and_tables
import Wide.Once
import KE.DataMinMax
import HandS.NamedTupSort
import HandS.MakeKwOnly
import HandS.More
import HandS.SetBool
import HandS.Strs
import HandS.Conv
import HandS.Deep
import HandS.HeadEnd
set_option Elab.async false
set_option linter.all false
set_option maxRecDepth 100000
set_option maxHeartbeats 0
section
namespace K22
open PySem PySem.Spec PyProof.Rows L2
/-! ### the text by places (printed by gen_head.py) -/
def top (i : Nat) : Stmt := PySem.Challenge.pw_pixelstages_k22_whole_ranks_and_tables.main.body.getD i (.Pass ⟨0, 0, 0, 0⟩)
abbrev s_is_whole : Stmt := top 18
abbrev s_is_from : Stmt := top 19
abbrev s_is_name : Stmt := top 20
abbrev s_are_wholes : Stmt := top 21
abbrev s_are_rows : Stmt := top 22
abbrev s_is_window : Stmt := top 23
abbrev s_lies_in : Stmt := top 24
abbrev s_are_planes : Stmt := top 30
abbrev s_source : Stmt := top 36
abbrev s_curved : Stmt := top 37
abbrev s_ranked : Stmt := top 38
abbrev s_is_border : Stmt := top 42
abbrev s_folded_one : Stmt := top 43
abbrev s_folded : Stmt := top 44
abbrev s_must_fit_border : Stmt := top 45
abbrev s_is_source : Stmt := top 46
abbrev s_shape_of_source : Stmt := top 47
abbrev s_tell_source : Stmt := top 49
abbrev s_same_shape : Stmt := top 54
abbrev s_is_curved : Stmt := top 64
abbrev s_shape_of_curved : Stmt := top 65
abbrev s_tell_curved : Stmt := top 67
abbrev s_is_form : Stmt := top 83
abbrev s_is_ranked : Stmt := top 84
abbrev s_cells_of_ranked : Stmt := top 85
abbrev s_tell_ranked : Stmt := top 86
abbrev s_row_of : Stmt := top 151
abbrev s_is_stage : Stmt := top 152
abbrev s_has_no_divisor : Stmt := top 153
abbrev s_made_of : Stmt := top 154
abbrev s_shape_by : Stmt := top 155
abbrev s_told_by : Stmt := top 156
abbrev s_first_missing : Stmt := top 159
abbrev s_in_order : Stmt := top 160
abbrev s_shapes_of : Stmt := top 161
abbrev s_numbers_at : Stmt := top 162
abbrev s_planes_by : Stmt := top 163
abbrev s_must_be_there : Stmt := top 164
abbrev s_must_be_window : Stmt := top 165
abbrev s_law_pen : Stmt := top 168
abbrev s_law_draw : Stmt := top 169
abbrev s_law_planes : Stmt := top 170
abbrev s_law_picture : Stmt := top 171
abbrev s_law_border : Stmt := top 172
abbrev s_law_window : Stmt := top 173
abbrev s_law_form : Stmt := top 174
abbrev s_law_sorted_table : Stmt := top 175
abbrev s_law_within : Stmt := top 176
abbrev s_law : Stmt := top 177
abbrev sPicture_init : Stmt := inClass (top 31) 0
abbrev sPicture_window : Stmt := inClass (top 31) 1
abbrev sPicture_at : Stmt := inClass (top 31) 2
abbrev sPicture_eq : Stmt := inClass (top 31) 3
abbrev sNet_init : Stmt := inClass (top 166) 0
abbrev sNet_put : Stmt := inClass (top 166) 1
abbrev sNet_whole : Stmt := inClass (top 166) 6
end K22
end
section
namespace K22
open PySem PySem.Spec PyProof.Rows L2
/-! ### the defs, the facts (printed by gen_head.py) -/
def d_is_whole : He.DefD := ⟨("is_whole", none), "is_whole", "is_whole", defArgs s_is_whole, defBody s_is_whole, defScope s_is_whole, [], []⟩
def d_is_from : He.DefD := ⟨("is_from", none), "is_from", "is_from", defArgs s_is_from, defBody s_is_from, defScope s_is_from, [], []⟩
def d_is_name : He.DefD := ⟨("is_name", none), "is_name", "is_name", defArgs s_is_name, defBody s_is_name, defScope s_is_name, [], []⟩
def d_are_wholes : He.DefD := ⟨("are_wholes", none), "are_wholes", "are_wholes", defArgs s_are_wholes, defBody s_are_wholes, defScope s_are_wholes, [], []⟩
def d_are_rows : He.DefD := ⟨("are_rows", none), "are_rows", "are_rows", defArgs s_are_rows, defBody s_are_rows, defScope s_are_rows, [], []⟩
def d_is_window : He.DefD := ⟨("is_window", none), "is_window", "is_window", defArgs s_is_window, defBody s_is_window, defScope s_is_window, [], []⟩
def d_lies_in : He.DefD := ⟨("lies_in", none), "lies_in", "lies_in", defArgs s_lies_in, defBody s_lies_in, defScope s_lies_in, [], []⟩
def d_are_planes : He.DefD := ⟨("are_planes", none), "are_planes", "are_planes", defArgs s_are_planes, defBody s_are_planes, defScope s_are_planes, [], []⟩
def d_source : He.DefD := ⟨("source", none), "source", "source", defArgs s_source, defBody s_source, defScope s_source, [], [("border", .str "near")]⟩
def d_curved : He.DefD := ⟨("curved", none), "curved", "curved", defArgs s_curved, defBody s_curved, defScope s_curved, [], [("depth", .non)]⟩
def d_ranked : He.DefD := ⟨("ranked", none), "ranked", "ranked", defArgs s_ranked, defBody s_ranked, defScope s_ranked, [], [("rank", .int 0)]⟩
def d_is_border : He.DefD := ⟨("is_border", none), "is_border", "is_border", defArgs s_is_border, defBody s_is_border, defScope s_is_border, [], []⟩
def d_folded_one : He.DefD := ⟨("folded_one", none), "folded_one", "folded_one", defArgs s_folded_one, defBody s_folded_one, defScope s_folded_one, [], []⟩
def d_folded : He.DefD := ⟨("folded", none), "folded", "folded", defArgs s_folded, defBody s_folded, defScope s_folded, [], []⟩
def d_must_fit_border : He.DefD := ⟨("must_fit_border", none), "must_fit_border", "must_fit_border", defArgs s_must_fit_border, defBody s_must_fit_border, defScope s_must_fit_border, [], []⟩
def d_is_source : He.DefD := ⟨("is_source", none), "is_source", "is_source", defArgs s_is_source, defBody s_is_source, defScope s_is_source, [], []⟩
def d_shape_of_source : He.DefD := ⟨("shape_of_source", none), "shape_of_source", "shape_of_source", defArgs s_shape_of_source, defBody s_shape_of_source, defScope s_shape_of_source, [], []⟩
def d_tell_source : He.DefD := ⟨("tell_source", none), "tell_source", "tell_source", defArgs s_tell_source, defBody s_tell_source, defScope s_tell_source, [], []⟩
def d_same_shape : He.DefD := ⟨("same_shape", none), "same_shape", "same_shape", defArgs s_same_shape, defBody s_same_shape, defScope s_same_shape, [], []⟩
def d_is_curved : He.DefD := ⟨("is_curved", none), "is_curved", "is_curved", defArgs s_is_curved, defBody s_is_curved, defScope s_is_curved, [], []⟩
def d_shape_of_curved : He.DefD := ⟨("shape_of_curved", none), "shape_of_curved", "shape_of_curved", defArgs s_shape_of_curved, defBody s_shape_of_curved, defScope s_shape_of_curved, [], []⟩
def d_tell_curved : He.DefD := ⟨("tell_curved", none), "tell_curved", "tell_curved", defArgs s_tell_curved, defBody s_tell_curved, defScope s_tell_curved, [], []⟩
def d_is_form : He.DefD := ⟨("is_form", none), "is_form", "is_form", defArgs s_is_form, defBody s_is_form, defScope s_is_form, [], []⟩
def d_is_ranked : He.DefD := ⟨("is_ranked", none), "is_ranked", "is_ranked", defArgs s_is_ranked, defBody s_is_ranked, defScope s_is_ranked, [], []⟩
def d_cells_of_ranked : He.DefD := ⟨("cells_of_ranked", none), "cells_of_ranked", "cells_of_ranked", defArgs s_cells_of_ranked, defBody s_cells_of_ranked, defScope s_cells_of_ranked, [], []⟩
def d_tell_ranked : He.DefD := ⟨("tell_ranked", none), "tell_ranked", "tell_ranked", defArgs s_tell_ranked, defBody s_tell_ranked, defScope s_tell_ranked, [], []⟩
def d_row_of : He.DefD := ⟨("row_of", none), "row_of", "row_of", defArgs s_row_of, defBody s_row_of, defScope s_row_of, [], []⟩
def d_is_stage : He.DefD := ⟨("is_stage", none), "is_stage", "is_stage", defArgs s_is_stage, defBody s_is_stage, defScope s_is_stage, [], []⟩
def d_has_no_divisor : He.DefD := ⟨("has_no_divisor", none), "has_no_divisor", "has_no_divisor", defArgs s_has_no_divisor, defBody s_has_no_divisor, defScope s_has_no_divisor, [], []⟩
def d_made_of : He.DefD := ⟨("made_of", none), "made_of", "made_of", defArgs s_made_of, defBody s_made_of, defScope s_made_of, [], []⟩
def d_shape_by : He.DefD := ⟨("shape_by", none), "shape_by", "shape_by", defArgs s_shape_by, defBody s_shape_by, defScope s_shape_by, [], []⟩
def d_told_by : He.DefD := ⟨("told_by", none), "told_by", "told_by", defArgs s_told_by, defBody s_told_by, defScope s_told_by, [], []⟩
def d_first_missing : He.DefD := ⟨("first_missing", none), "first_missing", "first_missing", defArgs s_first_missing, defBody s_first_missing, defScope s_first_missing, [], []⟩
def d_in_order : He.DefD := ⟨("in_order", none), "in_order", "in_order", defArgs s_in_order, defBody s_in_order, defScope s_in_order, [], []⟩
def d_shapes_of : He.DefD := ⟨("shapes_of", none), "shapes_of", "shapes_of", defArgs s_shapes_of, defBody s_shapes_of, defScope s_shapes_of, [], []⟩
def d_numbers_at : He.DefD := ⟨("numbers_at", none), "numbers_at", "numbers_at", defArgs s_numbers_at, defBody s_numbers_at, defScope s_numbers_at, [], []⟩
def d_planes_by : He.DefD := ⟨("planes_by", none), "planes_by", "planes_by", defArgs s_planes_by, defBody s_planes_by, defScope s_planes_by, [], []⟩
def d_must_be_there : He.DefD := ⟨("must_be_there", none), "must_be_there", "must_be_there", defArgs s_must_be_there, defBody s_must_be_there, defScope s_must_be_there, [], []⟩
def d_must_be_window : He.DefD := ⟨("must_be_window", none), "must_be_window", "must_be_window", defArgs s_must_be_window, defBody s_must_be_window, defScope s_must_be_window, [], []⟩
def d_law_pen : He.DefD := ⟨("_law_pen", none), "_law_pen", "_law_pen", defArgs s_law_pen, defBody s_law_pen, defScope s_law_pen, [], []⟩
def d_law_draw : He.DefD := ⟨("_law_draw", none), "_law_draw", "_law_draw", defArgs s_law_draw, defBody s_law_draw, defScope s_law_draw, [], []⟩
def d_law_planes : He.DefD := ⟨("_law_planes", none), "_law_planes", "_law_planes", defArgs s_law_planes, defBody s_law_planes, defScope s_law_planes, [], []⟩
def d_law_picture : He.DefD := ⟨("_law_picture", none), "_law_picture", "_law_picture", defArgs s_law_picture, defBody s_law_picture, defScope s_law_picture, [], []⟩
def d_law_border : He.DefD := ⟨("_law_border", none), "_law_border", "_law_border", defArgs s_law_border, defBody s_law_border, defScope s_law_border, [], []⟩
def d_law_window : He.DefD := ⟨("_law_window", none), "_law_window", "_law_window", defArgs s_law_window, defBody s_law_window, defScope s_law_window, [], []⟩
def d_law_form : He.DefD := ⟨("_law_form", none), "_law_form", "_law_form", defArgs s_law_form, defBody s_law_form, defScope s_law_form, [], []⟩
def d_law_sorted_table : He.DefD := ⟨("_law_sorted_table", none), "_law_sorted_table", "_law_sorted_table", defArgs s_law_sorted_table, defBody s_law_sorted_table, defScope s_law_sorted_table, [], []⟩
def d_law_within : He.DefD := ⟨("_law_within", none), "_law_within", "_law_within", defArgs s_law_within, defBody s_law_within, defScope s_law_within, [], []⟩
def d_law : He.DefD := ⟨("law", none), "law", "law", defArgs s_law, defBody s_law, defScope s_law, [], []⟩
def dPicture_init : He.DefD := ⟨("Picture", some "__init__"), "__init__", "Picture.__init__", defArgs sPicture_init, defBody sPicture_init, defScope sPicture_init, [], [("left", .int 0), ("up", .int 0), ("depth", .int 255)]⟩
def dPicture_window : He.DefD := ⟨("Picture", some "window"), "window", "Picture.window", defArgs sPicture_window, defBody sPicture_window, defScope sPicture_window, [], []⟩
def dPicture_at : He.DefD := ⟨("Picture", some "at"), "at", "Picture.at", defArgs sPicture_at, defBody sPicture_at, defScope sPicture_at, [], [("plane", .int 0)]⟩
def dPicture_eq : He.DefD := ⟨("Picture", some "__eq__"), "__eq__", "Picture.__eq__", defArgs sPicture_eq, defBody sPicture_eq, defScope sPicture_eq, [], []⟩
def dNet_init : He.DefD := ⟨("Net", some "__init__"), "__init__", "Net.__init__", defArgs sNet_init, defBody sNet_init, defScope sNet_init, [], []⟩
def dNet_put : He.DefD := ⟨("Net", some "put"), "put", "Net.put", defArgs sNet_put, defBody sNet_put, defScope sNet_put, [], []⟩
def dNet_whole : He.DefD := ⟨("Net", some "whole"), "whole", "Net.whole", defArgs sNet_whole, defBody sNet_whole, defScope sNet_whole, [], []⟩
def fns0 : List He.DefD := [d_is_whole, d_is_from, d_is_name, d_are_wholes, d_are_rows, d_is_window, d_lies_in, d_are_planes, d_source, d_curved, d_ranked, d_is_border, d_folded_one, d_folded, d_must_fit_border, d_is_source, d_shape_of_source, d_tell_source, d_same_shape, d_is_curved, d_shape_of_curved, d_tell_curved, d_is_form, d_is_ranked, d_cells_of_ranked, d_tell_ranked, d_row_of, d_is_stage, d_has_no_divisor, d_made_of]
def fns1 : List He.DefD := [d_shape_by, d_told_by, d_first_missing, d_in_order, d_shapes_of, d_numbers_at, d_planes_by, d_must_be_there, d_must_be_window, d_law_pen, d_law_draw, d_law_planes, d_law_picture, d_law_border, d_law_window, d_law_form, d_law_sorted_table, d_law_within, d_law, dPicture_init, dPicture_window, dPicture_at, dPicture_eq, dNet_init, dNet_put, dNet_whole]
def fns : List He.DefD := fns0 ++ (fns1)
def fas0 : List He.Fa := [.glo "is_whole", .glo "is_from", .glo "is_name", .glo "are_wholes", .glo "are_rows", .glo "is_window", .glo "lies_in", .glo "are_planes", .glo "source", .glo "curved", .glo "ranked", .glo "is_border", .glo "folded_one", .glo "folded", .glo "must_fit_border", .glo "is_source", .glo "shape_of_source", .glo "tell_source", .glo "same_shape", .glo "is_curved", .glo "shape_of_curved", .glo "tell_curved", .glo "is_form", .glo "is_ranked", .glo "cells_of_ranked", .glo "tell_ranked", .glo "row_of", .glo "is_stage", .glo "has_no_divisor", .glo "made_of"]
def fas1 : List He.Fa := [.glo "shape_by", .glo "told_by", .glo "first_missing", .glo "in_order", .glo "shapes_of", .glo "numbers_at", .glo "planes_by", .glo "must_be_there", .glo "must_be_window", .glo "_law_pen", .glo "_law_draw", .glo "_law_planes", .glo "_law_picture", .glo "_law_border", .glo "_law_window", .glo "_law_form", .glo "_law_sorted_table", .glo "_law_within", .glo "law", .glo "Picture", .glo "Net", .glo "GEOMETRY", .glo "COLOURS", .glo "FILTERS", .glo "TABLES", .glo "PLACES_OF_BY", .glo "BORDERS", .free "len", .free "isinstance", .free "all"]
def fas2 : List He.Fa := [.free "range", .free "tuple", .free "list", .free "dict", .free "set", .free "sorted", .free "max", .free "min", .free "abs", .free "int", .free "str", .free "bool", .int "LONGEST_NAME" 8, .int "FARTHEST" 1000, .int "WIDEST" 48, .int "MOST_PLANES" 4, .int "DEEPEST" 65535, .int "MOST_PLACES" 25, .int "FARTHEST_PLACE" 4, .int "MOST_STAGES" 24, .str "LETTERS" "abcdefghijklmnopqrstuvwxyz", .str "NEAR" "near", .str "WRAPPED" "wrapped", .str "MIRRORED" "mirrored", .cls "Picture", .cls "Net", .mkr "Picture", .mkr "Net", .noat "Picture" "planes", .noat "Picture" "left"]
def fas3 : List He.Fa := [.noat "Picture" "up", .noat "Picture" "depth", .noat "Net" "stages", .noat "Net" "shapes", .meth "Picture" "window", .meth "Picture" "at", .meth "Picture" "__eq__", .meth "Net" "put", .meth "Net" "whole"]
def fas : List He.Fa := fas0 ++ (fas1 ++ (fas2 ++ (fas3)))
def tbs : List He.Tab := [(fun K => He.ga K "GEOMETRY", ["source", "framed", "moved", "flipped", "turned", "curved"]), (fun K => He.ga K "COLOURS", ["lifted", "unlifted", "mixed"]), (fun K => He.ga K "FILTERS", ["filtered", "ranked"]), (fun K => He.ga K "PLACES_OF_BY", ["mixed", "filtered"])]
def tfs : List He.Defn := [("numbers_at", none), ("Net", some "whole")]
/-- the tuple that stands in the dict of the module's name t at the key k -/
def rowAd (K : PySem.W.Frag) (t k : Str) : Addr := match PySem.W.nsIn K (He.ga K t) k with
  | some (some (.ref a)) => a
  | _ => 0
def tupA (K : PySem.W.Frag) (a : Addr) (vs : List V) : Bool := match K.lookup a with
  | some ⟨.type c, _, .seq its _, _⟩ => decide (c = "tuple") && (decide (its.size ≤ sizeLine) && He.relAll vs its.toList)
  | _ => false
def rowB (K : PySem.W.Frag) (t k : Str) (vs : List V) : Bool := decide (PySem.W.nsIn K (He.ga K t) k = some (some (.ref (rowAd K t k)))) && tupA K (rowAd K t k) vs
def noKey (K : PySem.W.Frag) (t k : Str) : Bool := decide (PySem.W.nsIn K (He.ga K t) k = some none)
def row_source (K : PySem.W.Frag) : List V := [.int 0, .int 3, .ref (He.ga K "is_source"), .ref (He.ga K "shape_of_source"), .ref (He.ga K "cells_of_source"), .ref (He.ga K "tell_source")]
def row_curved (K : PySem.W.Frag) : List V := [.int 1, .int 4, .ref (He.ga K "is_curved"), .ref (He.ga K "shape_of_curved"), .ref (He.ga K "cells_of_own"), .ref (He.ga K "tell_curved")]
def row_ranked (K : PySem.W.Frag) : List V := [.int 1, .int 4, .ref (He.ga K "is_ranked"), .ref (He.ga K "same_shape"), .ref (He.ga K "cells_of_ranked"), .ref (He.ga K "tell_ranked")]
def exb (K : PySem.W.Frag) : Bool := He.tupB K "TABLES" [.glo "GEOMETRY", .glo "COLOURS", .glo "FILTERS", .glo "MEANS", .glo "SUMS"] && (He.tupB K "BORDERS" [.str "near", .str "wrapped", .str "mirrored"] && (rowB K "GEOMETRY" "source" (row_source K) && (rowB K "GEOMETRY" "curved" (row_curved K) && (rowB K "FILTERS" "ranked" (row_ranked K) && (noKey K "GEOMETRY" "ranked" && (noKey K "COLOURS" "ranked" && (noKey K "PLACES_OF_BY" "source" && (noKey K "PLACES_OF_BY" "curved" && (noKey K "PLACES_OF_BY" "ranked" && (decide (PySem.W.kitOne K (.ref (He.ga K "Picture")) (.ref (He.ga K "Picture")) = some true) && (decide (PySem.W.findIn K (.ref (He.ga K "Picture")) "__class__" = some (some (.builtin "object.__class__"))) && (decide (PySem.W.specialIn K (.builtin "object.__class__") "__get__" = some (some (.builtin "getset_descriptor.__get__"))) && (decide (PySem.W.takesIn K (.builtin "object.__class__") = some true) && (decide (PySem.W.mroIn K (He.ga K "Picture") (.type "object") = some true) && (decide (PySem.W.findIn K (.ref (He.ga K "Picture")) "__ne__" = some (some (.builtin "object.__ne__"))))))))))))))))))
def lss0 : List PySem.Str := ["_wall", "PixelError", "NoPicture", "NoStage", "NoName", "NoShape", "Ring", "TooMany", "NoTone", "Missing", "NoWindow", "NoDivisor", "LETTERS", "LONGEST_NAME", "FARTHEST", "WIDEST", "is_whole", "is_from", "is_name", "are_wholes", "are_rows", "is_window", "lies_in", "cells_of", "DEPTH", "MOST_PLANES", "DEEPEST", "are_planes", "Picture", "NEAR"]
def lss1 : List PySem.Str := ["WRAPPED", "MIRRORED", "source", "curved", "ranked", "BORDERS", "FARTHEST_MOVE", "is_border", "folded_one", "folded", "must_fit_border", "is_source", "shape_of_source", "cells_of_source", "tell_source", "is_framed", "shape_of_framed", "cells_of_framed", "tell_framed", "same_shape", "tell_cell", "is_moved", "place_of_moved", "is_flipped", "place_of_flipped", "is_turned", "place_of_turned", "KINDS_OF_PLACE", "cells_of_place", "is_curved"]
def lss2 : List PySem.Str := ["shape_of_curved", "cells_of_own", "tell_curved", "GEOMETRY", "MOST_WEIGHT", "MOST_BY", "MOST_PLUS", "MOST_ROWS", "MOST_PLACES", "FARTHEST_PLACE", "rounded", "are_roundings", "are_weights", "is_filtered", "weighed_places", "cells_of_filtered", "tell_filtered", "is_form", "is_ranked", "cells_of_ranked", "tell_ranked", "FILTERS", "MOST_STEPS", "MOST_STEP_WEIGHT", "MOST_SHIFT", "is_step", "is_lifted", "shape_of_lifted", "far_by", "lifted_numbers"]
def lss3 : List PySem.Str := ["unlifted_numbers", "numbers_of", "tell_lifted", "tell_unlifted", "is_mixed", "shape_of_mixed", "cells_of_mixed", "tell_mixed", "COLOURS", "MOST_SIDE", "are_sides", "cells_of_reduced", "tell_reduced", "cells_of_enlarged", "tell_enlarged", "is_band", "cells_of_band", "far_of_pair", "tell_far_band", "tell_near_band", "is_paired", "shape_of_paired", "cells_of_paired", "tell_paired", "MEANS", "LEAST", "GREATEST", "SUM", "GAP", "has_window"]
def lss4 : List PySem.Str := ["cells_of_summed", "tell_summed", "cells_of_unsummed", "tell_unsummed", "cells_of_levelled", "tell_levelled", "met_sum", "met_gap", "met_least", "met_greatest", "WAYS", "is_met", "shape_of_two", "tell_met", "is_of_names", "tell_chosen", "shape_of_own", "tell_own", "SUMS", "TABLES", "PLACES_OF_BY", "row_of", "is_stage", "has_no_divisor", "made_of", "shape_by", "told_by", "MOST_STAGES", "first_missing", "in_order"]
def lss5 : List PySem.Str := ["shapes_of", "numbers_at", "planes_by", "must_be_there", "must_be_window", "Net", "_law_pen", "_law_draw", "_law_planes", "_law_picture", "_law_border", "_law_window", "_law_form", "_law_sorted_table", "_law_within"]
def lss : List PySem.Str := lss0 ++ (lss1 ++ (lss2 ++ (lss3 ++ (lss4 ++ (lss5)))))
abbrev R : PySem.W.OpenRow := PySem.W.OpenLaw.row PySem.Challenge.rw_pixelstages_k22_whole_ranks_and_tables
def adr0 : List Addr := [3, 179, 186, 191, 196, 201, 208, 215, 225, 296, 304, 312, 320, 327, 334, 341, 348, 355, 369, 404, 466, 473, 487, 540, 547, 552, 557, 874, 879, 886]
def adr1 : List Addr := [893, 900, 907, 914, 919, 924, 929, 934, 941, 948, 1032, 1039, 1046, 1053, 1060, 1067, 1074, 1079, 1084, 1089, 284, 1021, 488, 640, 558, 866, 867, 313, 178, 185]
def adr2 : List Addr := [190, 195, 200, 207, 214, 224, 295, 289, 303, 297, 311, 305, 319, 326, 333, 340, 347, 354, 368, 403, 465, 472, 486, 539, 546, 551, 556, 873, 878, 885]
def adr3 : List Addr := [892, 899, 906, 913, 918, 923, 928, 933, 940, 947, 1031, 1038, 1045, 1052, 1059, 1066, 1073, 1078, 1083, 1088, 283, 1020, 489, 494, 560, 240, 247, 255, 262, 962]
def adr4 : List Addr := [969, 1004, 239, 233, 246, 254, 248, 261, 961, 968, 1003]
def adr : List Addr := adr0 ++ (adr1 ++ (adr2 ++ (adr3 ++ (adr4))))
/-- the part of the heap, reckoned once -/
def onceK {α : Type} : PySem.W.Frag → (PySem.W.Frag → α) → α
  | [], k => k []
  | (a, ⟨c, d, dt, sl⟩) :: r, k => onceK r fun r' => k ((a, ⟨c, d, dt, sl⟩) :: r')
theorem onceK_eq {α : Type} : ∀ (l : PySem.W.Frag) (k : PySem.W.Frag → α), onceK l k = k l
  | [], _ => rfl
  | (a, ⟨c, d, dt, sl⟩) :: r, k => onceK_eq r _
def obsA (fa : List He.Fa) (fn : List He.DefD) (ts : List He.Tab) (tf : List He.Defn) (ex : PySem.W.Frag → Bool) (g : Addr → Option Obj) : He.AlX :=
  onceK (He.frT g adr) fun K => (He.obsT fa fn ts K, ex K && He.tabsB g tf K)
theorem saysA {fa : List He.Fa} {fn : List He.DefD} {ts : List He.Tab} {tf : List He.Defn} {ex : PySem.W.Frag → Bool} {w : World} {h : Heap} (e : obsA fa fn ts tf ex h.get? = He.valX fn ts w) : He.SaysX fa fn ts tf ex w h (He.frT h.get? adr) := by
  unfold obsA at e
  rw [onceK_eq] at e
  have e2 := congrArg (fun z : He.AlX => z.2) e
  obtain ⟨h1, h2⟩ := He.ba (show (ex (He.frT h.get? adr) && He.tabsB h.get? tf (He.frT h.get? adr)) = true from e2)
  have look : ∀ p ∈ tf, ∃ o, h.get? (He.cT (He.frT h.get? adr) p).2 = some o ∧ He.emptyTab o = true := by
    intro p hp
    have z := (He.ba (List.all_eq_true.mp h2 p hp)).2
    revert z
    cases h.get? (He.cT (He.frT h.get? adr) p).2 with
    | none => intro z; cases z
    | some o => exact fun z => ⟨o, rfl, z⟩
  refine ⟨congrArg (fun z : He.AlX => z.1) e, h1, fun p hp => (He.ba (List.all_eq_true.mp h2 p hp)).1, fun p hp => ?_, fun p hp => ?_⟩
  · obtain ⟨o, q, z⟩ := look p hp
    exact He.frT_none q z
  · obtain ⟨o, q, z⟩ := look p hp
    rw [q, He.emptyTab_eq z]
def hookA (fa : List He.Fa) (fn : List He.DefD) (ts : List He.Tab) (tf : List He.Defn) (ex : PySem.W.Frag → Bool) : PySem.W.Hook where
  α := He.AlX
  obs := fun s => obsA fa fn ts tf ex s.heap.get?
  val := fun w => He.valX fn ts w
  says := fun w h => ∃ K : PySem.W.Frag, K.In h ∧ He.SaysX fa fn ts tf ex w h K
  of := fun _ _ e => ⟨_, He.frT_in, saysA e⟩
  keeps := fun _ _ _ ⟨K, hK, c⟩ k => ⟨K, hK.keeps k, c.t, c.more, c.hd, c.out, fun p hp => k _ _ (c.empty p hp)⟩
theorem obsA_eq {fa : List He.Fa} {fn : List He.DefD} {ts : List He.Tab} {tf : List He.Defn} {ex : PySem.W.Frag → Bool} {g : Addr → Option Obj} {s : Shared} (h : ∀ a, g a = s.heap.get? a) : obsA fa fn ts tf ex g = (hookA fa fn ts tf ex).obs s := by
  have e : g = s.heap.get? := funext h
  subst e
  rfl
abbrev hk : PySem.W.Hook := hookA fas fns tbs tfs exb
def ob (s : PySem.W.SharedT) : He.AlX := obsA fas fns tbs tfs exb (HandSHeadRun.getT s)
theorem ob_eq (s : PySem.W.SharedT) : ob s = hk.obs s.abs := obsA_eq (HandSHeadRun.getT_eq s)
end K22
end
section
namespace K22
open PySem PySem.Spec PyProof.Rows L2
/-! ### the top's run, looked at in three parts (each a check of its own: less memory) -/
theorem inParts {S A B C : Type} {x : Option S} {f : S → A} {g : S → B} {h : S → C} {a : A} {b : B} {c : C} (p : x.map f = some a) (q : x.map g = some b) (r : x.map h = some c) : x.map (fun s => (f s, g s, h s)) = some (a, b, c) := by
  cases x with
  | none => cases p
  | some s =>
    cases p
    cases q
    cases r
    rfl
noncomputable abbrev En (w : World) (os : OsState) : Option PySem.W.SharedT := HandSHeadRun.endF (HandSHeadRun.stepQ (HandSHeadRun.denQ HandSHeadRun.tabQ) R.prog w) 9000 R.prog w os
noncomputable abbrev sq (s : PySem.W.SharedT) := HandSHeadRun.seenQ (PySem.W.view R.prog [177]) lss (importedModules R.prog.main.body) (fun s => PySem.W.xlAt (PySem.W.view R.prog [177]) [] s && PySem.W.recOk R.records s) s.abs
theorem run1 (w : World) (os : OsState) : (En (w.withFollow "special-get-raises" false) os).map (fun s => HandSHeadRun.looksF R.prog (PySem.W.boot_heap (w.withFollow "special-get-raises" false).params) s.abs) = some true := by
  kernel_rfl
theorem run2 (w : World) (os : OsState) : (En (w.withFollow "special-get-raises" false) os).map sq = some (PySem.W.openGood (PySem.W.view R.prog [177]) lss) := by
  kernel_rfl
theorem run3 (w : World) (os : OsState) : (En (w.withFollow "special-get-raises" false) os).map ob = some (hk.val (w.withFollow "special-get-raises" false)) := by
  kernel_rfl
theorem run4 (w : World) (os : OsState) : (En (w.withFollow "special-get-raises" true) os).map (fun s => HandSHeadRun.looksF R.prog (PySem.W.boot_heap (w.withFollow "special-get-raises" true).params) s.abs) = some true := by
  kernel_rfl
theorem run5 (w : World) (os : OsState) : (En (w.withFollow "special-get-raises" true) os).map sq = some (PySem.W.openGood (PySem.W.view R.prog [177]) lss) := by
  kernel_rfl
theorem run6 (w : World) (os : OsState) : (En (w.withFollow "special-get-raises" true) os).map ob = some (hk.val (w.withFollow "special-get-raises" true)) := by
  kernel_rfl
theorem runF (w : World) : HandSHeadRun.RunEq R (PySem.W.view R.prog [177]) hk ob 9000 lss (w.withFollow "special-get-raises" false) := fun os => inParts (run1 w os) (run2 w os) (run3 w os)
theorem runT (w : World) : HandSHeadRun.RunEq R (PySem.W.view R.prog [177]) hk ob 9000 lss (w.withFollow "special-get-raises" true) := fun os => inParts (run4 w os) (run5 w os) (run6 w os)
theorem run22 (w : World) : HandSHeadRun.RunEq R (PySem.W.view R.prog [177]) hk ob 9000 lss w := PySem.W.byRow2 "special-get-raises" runF runT w
end K22
end
section
/-! ### functions handed on: the cells of a closure are told while a callee runs -/
namespace K22
open PySem PySem.Spec PyProof.Rows L2 LamX NdefX
/-- the cell at c, as it is -/
def CellO (c : Addr) (o : Obj) : HO := .ext fun h => h.get? c = some o
abbrev Cs := Addr → Option Obj
def withC (H : Hp) (cs : Cs) : Hp := fun b => match cs b with
  | some o => some (CellO b o)
  | none => H b
def lessC (H : Hp) (cs : Cs) : Hp := fun b => match cs b with
  | some _ => none
  | none => H b
theorem withC_in {H : Hp} {cs : Cs} {c : Addr} {o : Obj} (h : cs c = some o) : withC H cs c = some (CellO c o) := by unfold withC; rw [h]
theorem withC_out {H : Hp} {cs : Cs} {c : Addr} (h : cs c = none) : withC H cs c = H c := by unfold withC; rw [h]
theorem lessC_in {H : Hp} {cs : Cs} {c : Addr} {o : Obj} (h : cs c = some o) : lessC H cs c = none := by unfold lessC; rw [h]
theorem lessC_out {H : Hp} {cs : Cs} {c : Addr} (h : cs c = none) : lessC H cs c = H c := by unfold lessC; rw [h]
theorem less_with {H : Hp} {cs : Cs} (h : ∀ c o, cs c = some o → H c = none) : lessC (withC H cs) cs = H := by
  funext b
  cases e : cs b with
  | none => rw [lessC_out e, withC_out e]
  | some o => rw [lessC_in e, h b o e]
theorem with_less {H : Hp} {cs : Cs} (h : ∀ c o, cs c = some o → H c = some (CellO c o)) : withC (lessC H cs) cs = H := by
  funext b
  cases e : cs b with
  | none => rw [withC_out e, lessC_out e]
  | some o => rw [withC_in e, h b o e]
section
variable {P : Program} {w : World} {H : Hp} {h : Heap} {cs : Cs}
theorem cellO_ok {H' : Hp} {c : Addr} {o : Obj} (e : h.get? c = some o) : ObjOk P w H' h c (CellO c o) :=
  ⟨e, ⟨o, e⟩, fun h1 h2 (e1 : h1.get? c = some o) k => k o e1⟩
theorem cellO_get {c : Addr} {o : Obj} (hok : HOk P w H h) (e : H c = some (CellO c o)) : h.get? c = some o := (hok c _ e).1
theorem cellO_ntup {c : Addr} {o : Obj} {xs : List V} : CellO c o ≠ .tup xs := fun z => by
  unfold CellO at z
  cases z
theorem cellO_nown {c x : Addr} {o : Obj} : CellO c o ≠ .own x := fun z => by
  unfold CellO at z
  cases z
theorem cellO_ntbl {c : Addr} {o : Obj} {ps : Array Value} : CellO c o ≠ .tbl ps := fun z => by
  unfold CellO at z
  cases z
theorem cellO_nfrz {c : Addr} {o ob : Obj} {u : HO} : CellO c o ≠ .frz ob u := fun z => by
  unfold CellO at z
  cases z
theorem hok_with (x : HOk P w H h) (hc : ∀ c o, cs c = some o → h.get? c = some o ∧ H c = none) : HOk P w (withC H cs) h := by
  have out : ∀ b u, H b = some u → withC H cs b = some u := by
    intro b u e
    cases q : cs b with
    | none => rw [withC_out q]; exact e
    | some o => rw [(hc b o q).2] at e; cases e
  intro a u e
  cases q : cs a with
  | some o =>
    rw [withC_in q] at e
    cases e
    exact cellO_ok (hc a o q).1
  | none =>
    rw [withC_out q] at e
    exact (x a u e).stay (fun _ _ _ z => z) (fun b z => out b _ z) fun b xs z => out b _ z
theorem hok_less (x : HOk P w H h) (hc : ∀ c o, cs c = some o → H c = some (CellO c o)) : HOk P w (lessC H cs) h := by
  have out : ∀ b u, H b = some u → (∀ o, u ≠ CellO b o) → lessC H cs b = some u := by
    intro b u e n
    cases q : cs b with
    | none => rw [lessC_out q]; exact e
    | some o => rw [hc b o q] at e; exact absurd (Option.some.inj e).symm (n o)
  intro a u e
  cases q : cs a with
  | some o => rw [lessC_in q] at e; cases e
  | none =>
    rw [lessC_out q] at e
    exact (x a u e).stay (fun _ _ _ z => z) (fun b z => out b _ z fun o r => cellO_nown r.symm) fun b xs z => out b _ z fun o r => cellO_ntup r.symm
end
section
variable {P : Program} {w : World} {K : PySem.W.Frag} {mg : Str → Option Value} {base : Heap} {A : Around} {outer : List Env} {s s' : Shared} {H : Hp} {cs : Cs} {Q : VK} {u : Value}
theorem env0_with (e : Env0 P w K mg base A outer s H) (hc : ∀ c o, cs c = some o → s.heap.get? c = some o ∧ H c = none ∧ base.get? c = none ∧ c ∉ frs outer) : Env0 P w K mg base A outer s (withC H cs) := by
  refine ⟨e.frames, e.mod, fun b o z => ?_, e.bsz, e.funs, fun b z => ?_, hok_with e.hok fun c o q => ⟨(hc c o q).1, (hc c o q).2.1⟩, e.bare⟩
  · cases q : cs b with
    | none => rw [withC_out q]; exact e.bs b o z
    | some v => rw [(hc b v q).2.2.1] at z; cases z
  · cases q : cs b with
    | none => rw [withC_out q]; exact e.frf b z
    | some v => exact absurd z (hc b v q).2.2.2
theorem env0_less (e : Env0 P w K mg base A outer s H) (hc : ∀ c o, cs c = some o → H c = some (CellO c o)) : Env0 P w K mg base A outer s (lessC H cs) := by
  have key : ∀ b, H b = none → lessC H cs b = none := by
    intro b z
    cases q : cs b with
    | none => rw [lessC_out q]; exact z
    | some v => exact lessC_in q
  exact ⟨e.frames, e.mod, fun b o z => ⟨(e.bs b o z).1, key b (e.bs b o z).2⟩, e.bsz, e.funs, fun b z => key b (e.frf b z), hok_less e.hok hc, e.bare⟩
/-- the cells were told to the callee: they are our own again -/
theorem ce_less (hc : ∀ c o, cs c = some o → s.heap.get? c = some o ∧ H c = none)
    (h : CE outer P w (withC H cs) s (fun v H2 => (∀ c o, cs c = some o → H2 c = some (CellO c o)) ∧ Q v (lessC H2 cs)) u s') : CE outer P w H s Q u s' := by
  obtain ⟨v, H2, os, bare, un, hok, r, hcs, q⟩ := h
  have a1 : ∀ b, cs b = none → H b = none → withC H cs b = none := fun b z n => by rw [withC_out z]; exact n
  have a2 : ∀ b x, H b = some x → cs b = none := by
    intro b x z
    cases e : cs b with
    | none => rfl
    | some o => rw [(hc b o e).2] at z; cases z
  refine ⟨v, lessC H2 cs, os, bare, ?_, hok_less hok hcs, r, q⟩
  constructor
  · intro b o e n nf nx
    cases z : cs b with
    | none => exact un.keep b o e (a1 b z n) nf nx
    | some oc =>
      have e1 := (hc b oc z).1
      rw [e] at e1
      cases e1
      exact cellO_get hok (hcs b o z)
  · intro b o e n nf nx
    cases z : cs b with
    | none => exact un.slot b o e (a1 b z n) nf nx
    | some oc =>
      have e1 := (hc b oc z).1
      rw [e] at e1
      cases e1
      exact ⟨o.slots, cellO_get hok (hcs b o z)⟩
  · intro b o e n nx
    cases z : cs b with
    | none => rw [lessC_out z]; exact un.free b o e (a1 b z n) nx
    | some oc => exact lessC_in z
  · exact un.there
  · intro b xs z
    rw [lessC_out (a2 b _ z)]
    exact un.tups b xs (by rw [withC_out (a2 b _ z)]; exact z)
  · intro b o x z
    rw [lessC_out (a2 b _ z)]
    exact un.frzs b o x (by rw [withC_out (a2 b _ z)]; exact z)
  · intro b ps z
    rw [lessC_out (a2 b _ z)]
    exact un.tbls b ps (by rw [withC_out (a2 b _ z)]; exact z)
/-- a function ran that has its cells by itself: they are told as before -/
theorem ce_with (hok0 : HOk P w H s.heap) (hc : ∀ c o, cs c = some o → H c = some (CellO c o)) (hf : ∀ c o, cs c = some o → c ∉ frs outer)
    (h : CE outer P w (lessC H cs) s (fun v H2 => (∀ c o, cs c = some o → H2 c = none) → Q v (withC H2 cs)) u s') : CE outer P w H s Q u s' := by
  obtain ⟨v, H2, os, bare, un, hok, r, q⟩ := h
  have out : ∀ b, H b = none → cs b = none ∧ lessC H cs b = none := by
    intro b z
    cases e : cs b with
    | none => exact ⟨rfl, by rw [lessC_out e]; exact z⟩
    | some o => rw [hc b o e] at z; cases z
  have ne : ∀ b x, H b = some x → (∀ o, x ≠ CellO b o) → cs b = none := by
    intro b x z n
    cases e : cs b with
    | none => rfl
    | some o => rw [hc b o e] at z; exact absurd (Option.some.inj z).symm (n o)
  have kc : ∀ c o, cs c = some o → s'.heap.get? c = some o ∧ H2 c = none := by
    intro c o z
    have g := cellO_get hok0 (hc c o z)
    exact ⟨un.keep c o g (lessC_in z) (hf c o z) (by simp), un.free c o g (lessC_in z) (by simp)⟩
  refine ⟨v, withC H2 cs, os, bare, ?_, hok_with hok kc, r, q fun c o z => (kc c o z).2⟩
  constructor
  · exact fun b o e n nf nx => un.keep b o e (out b n).2 nf nx
  · exact fun b o e n nf nx => un.slot b o e (out b n).2 nf nx
  · intro b o e n nx
    rw [withC_out (out b n).1]
    exact un.free b o e (out b n).2 nx
  · exact un.there
  · intro b xs z
    have z2 := ne b _ z fun o r => cellO_ntup r.symm
    rw [withC_out z2]
    exact un.tups b xs (by rw [lessC_out z2]; exact z)
  · intro b o x z
    have z2 := ne b _ z fun o r => cellO_nfrz r.symm
    rw [withC_out z2]
    exact un.frzs b o x (by rw [lessC_out z2]; exact z)
  · intro b ps z
    have z2 := ne b _ z fun o r => cellO_ntbl r.symm
    rw [withC_out z2]
    exact un.tbls b ps (by rw [lessC_out z2]; exact z)
end
/-- what the cells of a closure hold, by the objects -/
structure CellsS (cl : List (Str × Addr)) (fr : List Str) (ws : List (Option V)) (cs : Cs) : Prop where
  len : ws.length = fr.length
  all : ∀ y c, cl.lookup y = some c → ∃ o v, cs c = some o ∧ o.data = .cell v
  inj : ∀ x y c, cl.lookup x = some c → cl.lookup y = some c → x = y
  has : ∀ (i : Nat) (y : Str), fr[i]? = some y → ∃ c o, cl.lookup y = some c ∧ cs c = some o ∧ ∀ v, ws[i]? = some (some v) → ∃ u, RelV v u ∧ o.data = .cell (some u)
/-- a function that may be called where J holds, of such a promise -/
structure Cb (P : Program) (w : World) (K : PySem.W.Frag) (mg : Str → Option Value) (base : Heap) (k : Nat) (f : Addr) (J : Hp → Prop) (sp : Sp) : Prop where
  fn : ∀ H h, J H → HOk P w H h → PySem.W.FnAt f h
  run : ∀ (A : Around) (outer : List Env) (s : Shared) (H : Hp) (us : List Value) (vs : List V) (Q : VK) (E : XK), J H → Room k A → Env0 P w K mg base A outer s H → Vals vs us → sp vs H Q E →
    codeAny (model P w) A (.call (.ref f) ⟨us, []⟩) (CR CX0 outer P w H s Q E) s
section
variable {P : Program} {w : World} {K : PySem.W.Frag} {mg : Str → Option Value} {base : Heap} {k : Nat} {f : Addr} {F : NF} {ps fr : List Str} {spN : List (Option V) → Sp} {J : Hp → Prop} {sp : Sp} {ws : List (Option V)} {cs : Cs}
theorem Cb.mono {j : Nat} (c : Cb P w K mg base j f J sp) (h : j ≤ k) : Cb P w K mg base k f J sp := ⟨c.fn, fun A outer s H us vs Q E j hr => c.run A outer s H us vs Q E j (hr.mono h)⟩
/-- a nested def of this promise -/
theorem cb_of (Fn : NOk P w K mg base CX0 k f F ps fr spN) (C : CellsS F.cl fr ws cs) (nF : cs f = none) (nC : cs F.c = none) (hJ : ∀ H, J H → H f = some (FnO f F) ∧ H F.c = some (CodeO F.c F.qual) ∧ ∀ c o, cs c = some o → H c = some (CellO c o))
    (hsp : ∀ vs H Q E, J H → sp vs H Q E → spN ws vs (lessC H cs) (fun v H2 => (∀ c o, cs c = some o → H2 c = none) → Q v (withC H2 cs)) E) : Cb P w K mg base k f J sp := by
  refine ⟨fun H h j hok => ?_, fun A outer s H us vs Q E j hr e0 r hq => ?_⟩
  · obtain ⟨od, sl, doc, pm, ctv, ho⟩ := fnO_at hok (hJ H j).1
    exact ⟨_, od, _, sl, ho⟩
  · obtain ⟨h1, h2, h3⟩ := hJ H j
    have e1 := env0_less e0 h3
    have nf : ∀ c o, cs c = some o → c ∉ frs outer := by
      intro c o z hb
      have q := e0.frf c hb
      rw [h3 c o z] at q
      cases q
    have f1 : lessC H cs f = some (FnO f F) := by rw [lessC_out nF]; exact h1
    have c1 : lessC H cs F.c = some (CodeO F.c F.qual) := by rw [lessC_out nC]; exact h2
    refine codeAny_mono (Fn.run A outer s (lessC H cs) us vs ws (fun v H2 => (∀ c o, cs c = some o → H2 c = none) → Q v (withC H2 cs)) E hr e1 f1 c1 ⟨C.len, fun y c e => ?_, C.inj, fun i y e => ?_⟩ r (hsp vs H Q E j hq)) fun rr s' hh => ?_
    · obtain ⟨o, v, z, d⟩ := C.all y c e
      exact ⟨lessC_in z, v, o, cellO_get e0.hok (h3 c o z), d⟩
    · obtain ⟨c, o, z1, z2, z3⟩ := C.has i y e
      exact ⟨c, z1, fun v q => let ⟨u, r1, d⟩ := z3 v q; ⟨u, r1, o, cellO_get e0.hok (h3 c o z2), d⟩⟩
    · cases rr with
      | error e => exact hh
      | ok fl =>
        cases fl with
        | ret u => exact ce_with e0.hok h3 nf hh
        | next => exact hh
        | brk => exact hh
        | cont => exact hh
end
/-! ### the calls -/
/-- f(..), f a name that holds a function handed in -/
def tCallCb (i : Nat) (f : Addr) (J : Hp → Prop) (sp : Sp) (t : TA) : TE := fun σ H Q => σ[i]? = some (some (.ref f)) ∧ J H ∧ t σ H fun vs H1 => J H1 ∧ sp vs H1 Q E0
section
variable {X : Cx} {k j i : Nat} {f : Addr} {J : Hp → Prop} {sp : Sp} {x : Str} {p pos : Pos} {e : Expr} {es : List Expr} {t : TA}
theorem pe_callCb (C : Cb X.prog X.w X.K X.mg X.base k f J sp) (hr : Room j X.A) (hk : k ≤ j) (hN : X.N[i]? = some x) (hv : Vis X.env.scope x) (ha : PA X (e :: es) t)
    (hd : (x == ("__debug__" : Str)) = false := by decide) (hcd : (x == ("__classdict__" : Str)) = false := by decide)
    (he : starEach (e :: es) X.env = (false, eval e X.env) :: starEach es X.env := by rfl) (hpl : (backTo pos (starEach es X.env)).any (·.1) = false := by rfl) :
    PE X (.Call (.Name x p) (e :: es) [] pos) (tCallCb i f J sp t) := by
  constructor
  intro pins s σ H Q I h
  obtain ⟨hs, hJ, ht⟩ := h
  have hvar := (pe_var (pos := p) hN hv hd hcd).run pins s σ H (fun v H1 => v = .ref f ∧ H1 = H) I ⟨.ref f, hs, rfl, rfl⟩
  refine wpAny_Call_Name_kw (thn hvar fun u s1 q => ?_)
  obtain ⟨v, H1, I1, r1, ev, eH⟩ := q
  subst ev eH
  obtain rfl : u = Value.ref f := r1
  refine PySem.W.callWith_F (first := []) (C.fn _ _ hJ I1.hok) (thn (ha.run pos pins s1 σ _ _ I1 ht) fun us s2 q => ?_) he hpl
  obtain ⟨vs, H2, I2, r, hJ2, q2⟩ := q
  refine ⟨C.fn _ _ hJ2 I2.hok, ?_⟩
  refine wpAny_call (codeAny_mono (C.run X.A X.stack s2 H2 us vs Q E0 hJ2 (hr.mono hk) I2.env0 r q2) fun rr s' hh => ?_)
  cases rr with
  | error e => exact hh.elim
  | ok fl =>
    cases fl with
    | ret u => exact I2.after hh
    | next => exact False.elim hh
    | brk => exact False.elim hh
    | cont => exact False.elim hh
end
/-- a def's call where a closure of this frame is handed on: its cells are told meanwhile -/
def tCallR (cl : List (Str × Addr)) (fr : List Str) (js : List Nat) (sp : Sp) (t : TA) : TE := fun σ H Q => t σ H fun vs H1 => ∀ cs : Cs, CellsS cl fr (js.map (slotAt σ)) cs → (∀ c o, cs c = some o → H1 c = none) →
  sp vs (withC H1 cs) (fun v H2 => (∀ c o, cs c = some o → H2 c = some (CellO c o)) ∧ Q v (lessC H2 cs)) E0
section
variable {X : Cx} {k j : Nat} {f : Addr} {fd : FuncData} {ps fr : List Str} {js : List Nat} {cl : List (Str × Addr)} {sp : Sp} {x : Str} {p pos : Pos} {e : Expr} {es : List Expr} {t : TA}
open Classical in
theorem cells_some {pins : List (Addr × Obj)} {σ : L2.St} {H : Hp} {s : Shared} (I : Inv X pins σ H s) (cp : Caps X cl fr js) (hfn : ∀ y, X.fn y = true) :
    ∃ cs : Cs, CellsS cl fr (js.map (slotAt σ)) cs ∧ ∀ c o, cs c = some o → s.heap.get? c = some o ∧ H c = none ∧ X.base.get? c = none ∧ c ∉ frs X.stack := by
  have C := cells_of I cp
  refine ⟨fun c => if ∃ y, cl.lookup y = some c then s.heap.get? c else none, ⟨C.len, fun y c e => ?_, C.inj, fun i y e => ?_⟩, fun c o e => ?_⟩
  · obtain ⟨_, v, o, ho, hd⟩ := C.all y c e
    exact ⟨o, v, (if_pos ⟨y, e⟩).trans ho, hd⟩
  · obtain ⟨c, hc, hv⟩ := C.has i y e
    obtain ⟨_, v, o, ho, hd⟩ := C.all y c hc
    refine ⟨c, o, hc, (if_pos ⟨y, hc⟩).trans ho, fun v q => ?_⟩
    obtain ⟨u, r, o2, h2, d2⟩ := hv v q
    rw [ho] at h2
    cases h2
    exact ⟨u, r, d2⟩
  · by_cases z : ∃ y, cl.lookup y = some c
    · obtain ⟨y, hy⟩ := id z
      have e1 : s.heap.get? c = some o := (if_pos z).symm.trans e
      have hX := cp.sub y c hy
      have big : X.s_0.heap.objs.size ≤ c := I.ok.cab y c (hfn y) hX
      refine ⟨e1, (C.all y c hy).1, Heap.get?_none_of_le (Nat.le_trans I.ok.bsz big), fun hb => ?_⟩
      rcases List.mem_cons.mp (I.stkSub c hb) with q | q
      · exact I.cne y c hX q
      · obtain ⟨_, ob, ho, _⟩ := I.ok.funs.mem q
        exact absurd (Nat.lt_of_lt_of_le (Heap.lt_size ho) big) (Nat.lt_irrefl _)
    · exact absurd ((if_neg z).symm.trans e) (fun q => nomatch q)
theorem pe_callR (F : FnOk X.prog X.w X.K X.mg X.base CX0 k f fd ps sp) (hr : Room j X.A) (hk : k ≤ j) (hg : Gl X x) (hm : X.mg x = some (.ref f)) (kp : PySem.W.keepIn X.K (.ref f) = true) (hb : Binds X.K fd ps [])
    (cp : X.Ok → Caps X cl fr js) (hfn : ∀ y, X.fn y = true) (ha : PA X (e :: es) t)
    (hdb : (x == ("__debug__" : Str)) = false := by decide) (he : starEach (e :: es) X.env = (false, eval e X.env) :: starEach es X.env := by rfl) (hpl : (backTo pos (starEach es X.env)).any (·.1) = false := by rfl) :
    PE X (.Call (.Name x p) (e :: es) [] pos) (tCallR cl fr js sp t) := by
  constructor
  intro pins s σ H Q I h
  refine wpAny_Call_Name_kw (ld_glob I hg hm ?_ hdb)
  refine PySem.W.callWith_K (h₀ := X.base) I.ok.mod.kin kp (thn (ha.run pos pins s σ H _ I h) fun us s1 q => ?_) he hpl
  obtain ⟨vs, H1, I1, r, q⟩ := q
  refine ⟨I1.kIn, ?_⟩
  obtain ⟨cs, C, hc⟩ := cells_some I1 (cp I1.ok) hfn
  have q2 := q cs C fun c o z => (hc c o z).2.1
  have hl := F.len _ _ _ _ q2
  have r2 : us.length = ps.length := by rw [← r.length]; exact hl
  have hb2 := hb s1 us I1.kIn (by rw [List.append_nil]; exact r2)
  rw [List.append_nil] at hb2
  refine wpAny_call (codeAny_mono (F.run X.A X.stack s1 (withC H1 cs) ⟨us, []⟩ us vs _ E0 (hr.mono hk) (env0_with I1.env0 hc) hb2 r q2) fun rr s' hh => ?_)
  cases rr with
  | error e => exact hh.elim
  | ok fl =>
    cases fl with
    | ret u => exact I1.after (ce_less (fun c o z => ⟨(hc c o z).1, (hc c o z).2.1⟩) hh)
    | next => exact False.elim hh
    | brk => exact False.elim hh
    | cont => exact False.elim hh
end
end K22
end
section
namespace K22
open PySem PySem.Spec PyProof.Rows L2
/-! ### t[::-1] of a tuple -/
theorem adj_back (n : Nat) : Builtin.Slice.sliceAdjust none none (-1) (n : Int) = ((n : Int) - 1, -1) := by
  unfold Builtin.Slice.sliceAdjust
  simp
theorem places_back (n : Nat) : Builtin.Slice.slicePlaces ((n : Int) - 1) (-1) (-1) = n := by
  unfold Builtin.Slice.slicePlaces
  simp
  omega
theorem fmap_some {α β : Type} {f : α → Option β} {g : α → β} : ∀ {l : List α}, (∀ k ∈ l, f k = some (g k)) → l.filterMap f = l.map g
  | [], _ => rfl
  | a :: r, h => by
    rw [List.filterMap_cons, h a List.mem_cons_self, List.map_cons, fmap_some fun k hk => h k (List.mem_cons_of_mem _ hk)]
theorem pick_back (xs : Array Value) : ((List.range xs.size).filterMap fun (k : Nat) => xs[(((xs.size : Int) - 1) + (k : Int) * (-1)).toNat]?).toArray = xs.toList.reverse.toArray := by
  congr 1
  apply List.ext_getElem?
  intro i
  by_cases hi : i < xs.size
  · have e : (List.range xs.size).filterMap (fun (k : Nat) => xs[(((xs.size : Int) - 1) + (k : Int) * (-1)).toNat]?) = (List.range xs.size).map fun k => xs.toList.getD (xs.size - 1 - k) .none := by
      apply fmap_some
      intro k hk
      have hk := List.mem_range.mp hk
      have q : (((xs.size : Int) - 1) + (k : Int) * (-1)).toNat = xs.size - 1 - k := by omega
      rw [q]
      have lt : xs.size - 1 - k < xs.size := by omega
      simp [lt]
    rw [e, List.getElem?_map, List.getElem?_range hi, List.getElem?_reverse (by simpa using hi)]
    have lt : xs.size - 1 - i < xs.size := by omega
    simp [lt]
  · have e1 : (xs.toList.reverse)[i]? = none := by
      rw [List.getElem?_eq_none]
      simp
      omega
    rw [e1, List.getElem?_eq_none]
    refine Nat.le_trans (List.length_filterMap_le _ _) ?_
    rw [List.length_range]
    omega
section
variable {prog : Program} {w : World} {A : Around} {E : Value → Shared → Prop} {s : Shared}
theorem applied_back {sl : Addr} {vs : Value} {n : Nat} {Q : Int × Int × Nat → Shared → Prop} (hs : s.heap.IsSliceOf sl .none .none vs) (ps : IsPart vs (some (-1)))
    (h : Q ((n : Int) - 1, -1, n) s) : wpAny (model prog w) A (Builtin.Slice.sliceApplied (.ref sl) (pure (n : Int))) Q E s := by
  obtain ⟨os, hos, hcs, hds⟩ := id hs
  unfold Builtin.Slice.sliceApplied Builtin.Slice.sliceFields
  refine wpAny_bind (wpAny_bind (wpAny_field hos hds (x := .none) rfl ?_))
  refine wpAny_bind (wpAny_field hos hds (x := .none) rfl ?_)
  refine wpAny_bind (wpAny_field hos hds (x := vs) rfl (wpAny_pure ?_))
  refine wpAny_bind (HT.slicePart_ ps ?_)
  show wpAny _ _ (if ((-1 : Int) == 0) = true then _ else _) _ _ s
  rw [if_neg (by decide)]
  refine wpAny_bind (HT.slicePart_ .none ?_)
  refine wpAny_bind (HT.slicePart_ .none ?_)
  refine wpAny_bind (wpAny_pure (wpAny_pure ?_))
  show Q ((Builtin.Slice.sliceAdjust none none (-1) (n : Int)).1, -1, Builtin.Slice.slicePlaces (Builtin.Slice.sliceAdjust none none (-1) (n : Int)).1 (Builtin.Slice.sliceAdjust none none (-1) (n : Int)).2 (-1)) s
  rw [adj_back, places_back]
  exact h
theorem tup_back {t sl : Addr} {items : Array Value} {vs : Value} {Q : Value → Shared → Prop} (ht : IsTup s.heap t items) (hs : s.heap.IsSliceOf sl .none .none vs) (ps : IsPart vs (some (-1)))
    (h : Q (.ref s.heap.objs.size) { s with heap := s.heap.push { cls := .type "tuple", data := .seq items.toList.reverse.toArray } }) (hsz : items.size ≤ sizeLine) :
    wpAny (model prog w) A (getItem (.ref t) (.ref sl)) Q E s := by
  have hz : sizeOk (.seq items.toList.reverse.toArray) := by
    show items.toList.reverse.toArray.size ≤ sizeLine
    simpa using hsz
  obtain ⟨os, hos, hcs, hds⟩ := id hs
  have hTs : s.TypeIs (.ref sl) "slice" := ⟨os, hos, hcs⟩
  unfold getItem
  try with_reducible refine wpAny_holding ?_
  first | refine wpAny_bind (wpAny_pure ?_) | skip
  refine wpAny_bind (wpAny_sequenceKey ht.typeIs (by decide) ?_)
  refine wpAny_bind (wpAny_callSpecial?_slot (name := Str.ofString "__getitem__") ht.typeIs PyProof.Rows.slot_tuple_getitem
    (wpAny_call_entry PyProof.Rows.slot_tuple_getitem ht.typeIs entry_tuple_getitem ?_ (args_tuple_getitem _ _)))
  show wpAny _ _ (Builtin.Tuple.tupleItemsOf (.ref t) >>= _) _ _ s
  refine wpAny_bind (tupleItemsOf_ ht ?_)
  refine wpAny_bind (wpAny_typeOf hTs ?_)
  rw [if_pos (by decide)]
  refine wpAny_bind (applied_back hs ps ?_)
  have hno : ¬ (((((items.size : Nat) : Int) - 1) == 0 && (-1 : Int) == 1 && items.size == items.size) = true) := by
    intro q
    rw [Bool.and_eq_true, Bool.and_eq_true] at q
    exact absurd q.1.2 (by decide)
  show wpAny _ _ (if ((((items.size : Nat) : Int) - 1) == 0 && (-1 : Int) == 1 && items.size == items.size) = true then _ else _) _ _ s
  rw [if_neg hno, pick_back]
  first
    | exact wpAny_bind (m := Builtin.Tuple.tupleExact _) (wpAny_newObj_type (wpAny_pure ⟨_, rfl, wpAny_pure h⟩) hz)
    | exact wpAny_bind (m := Builtin.Tuple.tupleExact _) (wpAny_newObj_type (wpAny_bind (wpAny_pure (wpAny_pure ⟨_, rfl, wpAny_pure h⟩))) hz)
    | exact wpAny_bind (wpAny_bind (m := Builtin.Tuple.tupleExact _) (wpAny_newObj_type (wpAny_pure (wpAny_pure ⟨_, rfl, wpAny_pure h⟩)) hz))
    | exact wpAny_bind (wpAny_bind (m := Builtin.Tuple.tupleExact _) (wpAny_newObj_type (wpAny_pure ⟨_, rfl, wpAny_pure h⟩) hz))
end
/-- t[::-1], a new tuple -/
def tRevT (K : PySem.W.Frag) (te : TE) : TE := fun σ H Q => te σ H fun x H1 => ∃ a xs, x = .ref a ∧ SqT K H1 a xs ∧ ∀ p, H1 p = none → Q (.ref p) (upd H1 p (.tup xs.reverse))
theorem pe_revT {X : Cx} {e : Expr} {te : TE} {k : Nat} {p1 p2 p3 pos : Pos} (he : PE X e te) : PE X (.Subscript e (.Slice none none (some (.UnaryOp .USub (.Constant (.int 1) k p1) p2)) p3) pos) (tRevT X.K te) := by
  constructor
  intro pins s σ H Q I h
  refine Subscript_ (thn (he.run pins s σ H _ I h) fun v s1 q0 => ?_)
  obtain ⟨x, H1, I1, r1, a, xs, ex, hx, q⟩ := q0
  subst ex
  cases r1
  have hst : PO X (some (.UnaryOp .USub (.Constant (.int 1) k p1) p2)) (tPart (tUn (rU fun i => .int (-i)) (tC (.int 1)))) := po_some (pe_un un_neg pe_int)
  refine wpAny_Slice (thn (po_none.run pins s1 σ H1 (fun o H2 => o = none ∧ H2 = H1) I1 ⟨rfl, rfl⟩) fun vl s2 ql => ?_)
  obtain ⟨l, H2, I2, pl, el, e2⟩ := ql
  subst el e2
  refine thn (po_none.run pins s2 σ H2 (fun o H3 => o = none ∧ H3 = H2) I2 ⟨rfl, rfl⟩) fun vu s3 qu => ?_
  obtain ⟨u, H3, I3, pu, eu, e3⟩ := qu
  subst eu e3
  refine thn (hst.run pins s3 σ H3 (fun o H4 => o = some (-1) ∧ H4 = H3) I3 ⟨1, rfl, -1, rfl, rfl, rfl⟩) fun vs s4 qs => ?_
  obtain ⟨o, H4, I4, ps, eo, e4⟩ := qs
  subst eo e4
  cases pl
  cases pu
  have I5 : Inv X pins σ H4 { s4 with heap := s4.heap.push { cls := .type "slice", data := .fields #[.none, .none, vs] } } := I4.kept (t' := s4.toks) fun b ob q => Heap.get?_push_of_some _ q
  obtain ⟨its, r, ht, hz⟩ := I5.tuple hx
  have hlen := r.length
  show wpAny (model X.prog X.w) X.A (subscriptTail e (.Slice none none (some (.UnaryOp .USub (.Constant (.int 1) k p1) p2)) p3) (.ref a) (.ref s4.heap.objs.size)) (EP X pins σ Q) X.xe { s4 with heap := s4.heap.push { cls := .type "slice", data := .fields #[.none, .none, vs] } }
  refine tail_any (ops := [.ref a, .ref s4.heap.objs.size]) ht.typeIs PyProof.Rows.slot_tuple_getitem.lookup ?_ (by with_unfolding_all rfl)
  refine tup_back ht (Heap.IsSliceOf.new _ .none .none vs) ps ?_ (by rw [List.size_toArray]; omega)
  refine ⟨.ref _, _, I5.laid (t' := s4.toks) (o := .tup xs.reverse) (fun b ob q => Heap.get?_push_of_some _ q) (Nat.le_refl _) ?_, rfl, q _ (I5.hok.fresh (Nat.le_refl _))⟩
  refine ⟨by rw [List.length_reverse]; exact hz, _, r.reverse, ?_⟩
  exact IsTup.new _ _
/-! ### max of a tuple of ints -/
theorem reads_ints {h : Heap} {us : List Value} {ns : List Int} (r : IntsAre us ns) : ReadsAll h us (ns.map PyData.int) [] := by
  induction r with
  | nil => exact .nil
  | cons n t r ih => exact .cons (as := []) (.int n t) ih
theorem ints_alike (ns : List Int) : PySem.W.AlikeAll (ns.map PyData.int) := by
  refine ⟨fun x hx y hy => ?_, fun x hx => ?_⟩
  · obtain ⟨i, _, rfl⟩ := List.mem_map.mp hx
    obtain ⟨j, _, rfl⟩ := List.mem_map.mp hy
    rfl
  · obtain ⟨i, _, rfl⟩ := List.mem_map.mp hx
    intro z
    cases z
theorem ints_depth : ∀ ns : List Int, PyData.depthAll (ns.map PyData.int) = 0
  | [] => rfl
  | n :: r => by
    rw [List.map_cons]
    show Nat.max (PyData.int n).depth (PyData.depthAll (r.map PyData.int)) = 0
    rw [ints_depth r]
    rfl
/-- max(t), t a tuple of ints: one of them -/
def rMaxT (K : PySem.W.Frag) : List V → Hp → VK → Prop := fun vs H Q => ∃ (a : Addr) (ns : List Int), vs = [V.ref a] ∧ SqT K H a (ns.map V.int) ∧ ns ≠ [] ∧ ∀ m, m ∈ ns → Q (.int m) H
theorem cr_maxT {X : Cx} (hc : X.calm = true) (hu : X.A.units + 1 < cLine) : CallR X (.builtin "max") (rMaxT X.K) := by
  intro pins s σ H vs us Q I r h
  obtain ⟨a, ns, rfl, hs, hne, q⟩ := h
  obtain ⟨its, rv, ht, _⟩ := I.tuple hs
  obtain ⟨u, rfl, ru⟩ := vals1 r
  cases ru
  have hi : IntsAre its ns := intsAre_of rv
  cases ns with
  | nil => exact absurd rfl hne
  | cons n r =>
    have rd := reads_ints (h := s.heap) hi
    rw [List.map_cons] at rd
    have al := ints_alike (n :: r)
    have dp := ints_depth (n :: r)
    rw [List.map_cons] at al dp
    have htt : s.heap.IsTuple a its.toArray := by
      obtain ⟨o, e, c, n, d⟩ := ht
      exact ⟨o, e, c, n, d⟩
    refine PySem.W.max_tuple_data (I.ok.hd hc) htt rd al (by rw [dp]; exact hu) fun i v h' tk bs hv _ hk => ?_
    obtain ⟨x, hx, rx⟩ : ∃ m, m ∈ (n :: r) ∧ ∃ t, v = Value.int m t := by
      have hv2 : its[i]? = some v := by simpa using hv
      have hl := rv.length
      cases e : ((n :: r).map V.int)[i]? with
      | none =>
        rw [rv.none_of e] at hv2
        cases hv2
      | some x =>
        obtain ⟨u, hu2, ru⟩ := rv.get e
        rw [hv2] at hu2
        cases hu2
        obtain ⟨m, hm, rfl⟩ := List.mem_map.mp (List.mem_of_getElem? e)
        exact ⟨m, hm, ru⟩
    exact ⟨.int x, H, I.kept hk, rx, q x hx⟩
/-! ### o.m(e, k = v) -/
def tMethN (C : Addr) (m : Str) (n l : Nat) (sp : Sp) (gV : List V → List V → List V) (ta : TE) (t tk : TA) : TE := fun σ H Q => ta σ H fun x H1 => ∃ a dx fs, x = .ref a ∧ H1 a = some (.ins C dx fs) ∧ fs.lookup m = none ∧
  t σ H1 fun vs H2 => tk σ H2 fun zs H3 => vs.length + 1 = n ∧ zs.length = l ∧ sp (gV (x :: vs) zs) H3 Q E0
section
variable {X : Cx} {C f : Addr} {m : Str} {k n : Nat} {fd : FuncData} {ps ks : List Str} {sp : Sp} {o e : Expr} {es : List Expr} {kws : List Keyword} {ta : TE} {t tk : TA} {g : List Value → List Value → List Value} {gV : List V → List V → List V} {apos pos : Pos}
theorem pe_methN {pl : Sem Bool} (he : PE X o ta) (c : Cls X.K C) (hm : Meth X.K C m f) (F : FnOk X.prog X.w X.K X.mg X.base CX0 k f fd ps sp) (hr : Room k X.A) (hb : KBn X.K fd ps n ks g gV) (ha : PA X (e :: es) t) (hkw : PK X kws tk)
    (hall : (backToKw pos (keywordEach kws X.env)).all (·.1.isSome) = true := by rfl) (hks : (backToKw pos (keywordEach kws X.env)).filterMap (·.1) = ks := by rfl)
    (hst : starEach (e :: es) X.env = (false, eval e X.env) :: starEach es X.env := by rfl) (hpl : ((backTo pos (starEach (e :: es) X.env)).any (·.1) || (backToKw pos (keywordEach kws X.env)).any (·.1.isNone)) = false := by rfl)
    (ht : eval (.Call (.Attribute o m apos) (e :: es) kws pos) X.env = (do
      let ov ← eval o X.env
      standAt apos.atName
      let (f, first) ← holding [ov] (getMethod ov m pl)
      callWith pos f first (backTo pos (starEach (e :: es) X.env)) (backToKw pos (keywordEach kws X.env))) := by rfl) :
    PE X (.Call (.Attribute o m apos) (e :: es) kws pos) (tMethN C m n ks.length sp gV ta t tk) := by
  constructor
  intro pins s σ H Q I h
  refine PySem.W.methodCall_KW (pl := pl) (thn (he.run pins s σ H _ I h) fun u s1 q0 => ?_) ht
  obtain ⟨x, H1, I1, rx, a, dx, fs, ex, ea, l, q⟩ := q0
  subst ex
  obtain rfl : u = Value.ref a := rx
  refine getmeth_ok I1 ea c hm l ?_
  refine PySem.W.callWith_KW (first := [.ref a]) (h₀ := X.base) I.ok.mod.kin hm.kp hall (thn (ha.run pos pins s1 σ H1 _ I1 q) fun us s2 q2 => ?_) hpl hst
  obtain ⟨vs, H2, I2, r, q2⟩ := q2
  refine thn (hkw.run pos pins s2 σ H2 _ I2 q2) fun ws s3 q3 => ?_
  obtain ⟨zs, H3, I3, rz, l1, l2, q3⟩ := q3
  refine ⟨I3.kIn, ?_⟩
  rw [hks]
  exact run_fnN (us := .ref a :: us) (vs := .ref a :: vs) F hr hb pass0 I3 (.cons rfl r) rz (by simpa using l1) l2 q3
end
/-! ### a != b by an own == -/
def rNeOwn (C : Addr) (sp : Sp) : R2 := fun x y H Q => ∃ a b dx dy fs gs, x = .ref a ∧ y = .ref b ∧ H a = some (.ins C dx fs) ∧ H b = some (.ins C dy gs) ∧ sp [.ref a, .ref b] H (fun v H' => v = .bl true ∧ Q (.bl false) H') E0
theorem op_neOwn {X : Cx} {C f : Addr} {n : Nat} {fd : FuncData} {ps : List Str} {sp : Sp} (F : FnOk X.prog X.w X.K X.mg X.base CX0 n f fd ps sp) (hs : PySem.W.findIn X.K (.ref C) "__eq__" = some (some (.ref f))) (hf : PySem.W.isFn X.K (.ref f) = true)
    (hne : PySem.W.findIn X.K (.ref C) "__ne__" = some (some (.builtin "object.__ne__"))) (hm : PySem.W.mroIn X.K C (.type "object") = some true) (hb : Binds X.K fd ps []) (hr : Room (n + 1) X.A) : OpR X (compareOp .NotEq) (rNeOwn C sp) := by
  intro pins s σ H x y u v Q I rx ry h
  obtain ⟨a, b, dx, dy, fs, gs, rfl, rfl, ea, eb, q⟩ := h
  cases rx
  cases ry
  obtain ⟨mA, OA, _⟩ := ins_get I.hok ea
  obtain ⟨mB, OB, _⟩ := ins_get I.hok eb
  obtain ⟨oa, JA, _⟩ := OA.look
  obtain ⟨ob, JB, _⟩ := OB.look
  have X0 := I.kIn
  have call_eq : wpAny (model X.prog X.w) X.A.in1 (call (.ref f) [.ref a, .ref b]) (fun r s' => r = .bool true ∧ EP X pins σ Q (.bool false) s') X.xe s := by
    have hl := F.len _ _ _ _ q
    have r2 : Vals [V.ref a, V.ref b] [Value.ref a, Value.ref b] := .cons rfl (.cons rfl .nil)
    have hb2 := hb s [.ref a, .ref b] I.kIn (by simpa using hl)
    rw [List.append_nil] at hb2
    refine wpAny_call (codeAny_mono (F.run X.A.in1 X.stack s H ⟨[.ref a, .ref b], []⟩ [.ref a, .ref b] [.ref a, .ref b] _ E0 hr.in1 I.env0.in1 hb2 r2 q) fun rr s' hh => ?_)
    cases rr with
    | error e => exact hh.elim
    | ok fl =>
      cases fl with
      | ret z =>
        obtain ⟨z', H', I', rz, ez, qz⟩ := I.after hh
        subst ez
        cases rz
        exact ⟨rfl, V.bl false, H', I', rfl, qz⟩
      | next => exact False.elim hh
      | brk => exact False.elim hh
      | cont => exact False.elim hh
  have body : wpAny (model X.prog X.w) X.A.in1 (Builtin.«object.__ne__» ⟨[.ref a, .ref b], []⟩) (fun fin s' => fin = .done (.ret (.bool false)) ∧ EP X pins σ Q (.bool false) s') X.xe s := by
    unfold Builtin.«object.__ne__»
    have u1 : X.A.in1.units < cLine := hr.in1.units0
    repeat (first
      | with_reducible refine wpAny_cRoomFor u1 ?_
      | (refine wpAny_bind (m := callSpecialIfBound? (.ref a) (Str.ofString "__eq__") [.ref b]) (PySem.W.ifBound_K X0 JA hs hf (wpAny_mono call_eq (fun r s' hh => ?_) fun _ _ z => z))
         obtain ⟨er, q2⟩ := hh
         subst er)
      | wp_step)
    exact ⟨rfl, q2⟩
  have ne_call : wpAny (model X.prog X.w) X.A (call (.builtin "object.__ne__") ([.ref a] ++ [.ref b])) (fun r s' => r = .bool false ∧ EP X pins σ Q (.bool false) s') X.xe s := by
    refine wpAny_call (codeAny_call_builtin PySem.F.slot_object_ne.plain PySem.F.cmpEntry_ne ?_)
    refine PySem.W.check_slot (owner := "object") (n := "__ne__") PySem.F.cmpKind_ne PySem.F.cmpSplit_ne (JA.type.andThen (PySem.W.looks_mroIn X0 hm)) (PySem.F.cmpArgs_ne _ _) ?_
    refine wpAny_mono body (fun fin s' z => ?_) fun _ _ z => z
    obtain ⟨e1, e2⟩ := z
    subst e1
    exact ⟨rfl, e2⟩
  have tri : wpAny (model X.prog X.w) X.A (tryCompare (.ref a) (cmpInfo .NotEq).2.1 (.ref b)) (fun r s' => r = some (.bool false) ∧ EP X pins σ Q (.bool false) s') X.xe s := by
    unfold tryCompare
    refine wpAny_bind (NtL.csib (JA.type.andThen (PySem.W.looks_findIn X0 hne)) (PySem.F.slot_object_ne.bind _) (wpAny_mono ne_call (fun v s' z => ?_) fun _ _ z => z))
    obtain ⟨e1, e2⟩ := z
    subst e1
    exact wpAny_pure ⟨rfl, e2⟩
  show wpAny _ _ (richCompare .NotEq (.ref a) (.ref b)) _ _ _
  unfold richCompare
  simp only [oneThing_ref]
  refine wpAny_holding (wpAny_bind (wpAny_cRoomFor hr.units0 ?_))
  refine wpAny_bind (JA.type.here (wpAny_bind (JB.type.here ?_)))
  rw [show (Value.ref C != Value.ref C) = false from by simp]
  simp only [Bool.false_eq_true, if_false]
  refine wpAny_bind (wpAny_pure ?_)
  simp only [Bool.false_eq_true, if_false]
  refine wpAny_bind (wpAny_mono tri (fun r s' z => ?_) fun _ _ z => z)
  obtain ⟨e1, e2⟩ := z
  subst e1
  exact wpAny_pure e2
end K22
end
section
namespace K22
open PySem PySem.Spec PyProof.Rows L2
/-- a def of the module, as it stands behind the top -/
def Dx (K : PySem.W.Frag) (mg : Str → Option Value) (x : Str) (st : Stmt) (kws : List (Str × V)) : Prop :=
  (∃ fd, FunD K x x (defArgs st) (defBody st) (defScope st) [] kws (He.ga K x) fd) ∧ mg x = some (.ref (He.ga K x))
/-- a method -/
def Mx (K : PySem.W.Frag) (c m q : Str) (st : Stmt) (kws : List (Str × V)) : Prop :=
  ∃ fd, FunD K m q (defArgs st) (defBody st) (defScope st) [] kws (He.ma K (He.ga K c) m) fd
/-! ### what the head tells (fields printed by a program) -/
abbrev Glo (mg : Str → Option Value) (x : Str) (v : V) : Prop := ∃ u, mg x = some u ∧ RelV v u
structure Fx (K : PySem.W.Frag) (mg : Str → Option Value) (w : World) : Prop where
  g_LONGEST_NAME : Glo mg "LONGEST_NAME" (.int 8)
  g_FARTHEST : Glo mg "FARTHEST" (.int 1000)
  g_WIDEST : Glo mg "WIDEST" (.int 48)
  g_MOST_PLANES : Glo mg "MOST_PLANES" (.int 4)
  g_DEEPEST : Glo mg "DEEPEST" (.int 65535)
  g_MOST_PLACES : Glo mg "MOST_PLACES" (.int 25)
  g_FARTHEST_PLACE : Glo mg "FARTHEST_PLACE" (.int 4)
  g_MOST_STAGES : Glo mg "MOST_STAGES" (.int 24)
  g_LETTERS : Glo mg "LETTERS" (.str "abcdefghijklmnopqrstuvwxyz")
  g_NEAR : Glo mg "NEAR" (.str "near")
  g_WRAPPED : Glo mg "WRAPPED" (.str "wrapped")
  g_MIRRORED : Glo mg "MIRRORED" (.str "mirrored")
  c_Picture : Glo mg "Picture" (.ref (He.ga K "Picture"))
  c_Net : Glo mg "Net" (.ref (He.ga K "Net"))
  c_GEOMETRY : Glo mg "GEOMETRY" (.ref (He.ga K "GEOMETRY"))
  c_COLOURS : Glo mg "COLOURS" (.ref (He.ga K "COLOURS"))
  c_FILTERS : Glo mg "FILTERS" (.ref (He.ga K "FILTERS"))
  c_TABLES : Glo mg "TABLES" (.ref (He.ga K "TABLES"))
  c_PLACES_OF_BY : Glo mg "PLACES_OF_BY" (.ref (He.ga K "PLACES_OF_BY"))
  c_BORDERS : Glo mg "BORDERS" (.ref (He.ga K "BORDERS"))
  f_len : mg "len" = none
  f_isinstance : mg "isinstance" = none
  f_all : mg "all" = none
  f_range : mg "range" = none
  f_tuple : mg "tuple" = none
  f_list : mg "list" = none
  f_dict : mg "dict" = none
  f_set : mg "set" = none
  f_sorted : mg "sorted" = none
  f_max : mg "max" = none
  f_min : mg "min" = none
  f_abs : mg "abs" = none
  f_int : mg "int" = none
  f_str : mg "str" = none
  f_bool : mg "bool" = none
  d_is_whole : Dx K mg "is_whole" s_is_whole []
  d_is_from : Dx K mg "is_from" s_is_from []
  d_is_name : Dx K mg "is_name" s_is_name []
  d_are_wholes : Dx K mg "are_wholes" s_are_wholes []
  d_are_rows : Dx K mg "are_rows" s_are_rows []
  d_is_window : Dx K mg "is_window" s_is_window []
  d_lies_in : Dx K mg "lies_in" s_lies_in []
  d_are_planes : Dx K mg "are_planes" s_are_planes []
  d_source : Dx K mg "source" s_source [("border", V.str "near")]
  d_curved : Dx K mg "curved" s_curved [("depth", V.non)]
  d_ranked : Dx K mg "ranked" s_ranked [("rank", V.int 0)]
  d_is_border : Dx K mg "is_border" s_is_border []
  d_folded_one : Dx K mg "folded_one" s_folded_one []
  d_folded : Dx K mg "folded" s_folded []
  d_must_fit_border : Dx K mg "must_fit_border" s_must_fit_border []
  d_is_source : Dx K mg "is_source" s_is_source []
  d_shape_of_source : Dx K mg "shape_of_source" s_shape_of_source []
  d_tell_source : Dx K mg "tell_source" s_tell_source []
  d_same_shape : Dx K mg "same_shape" s_same_shape []
  d_is_curved : Dx K mg "is_curved" s_is_curved []
  d_shape_of_curved : Dx K mg "shape_of_curved" s_shape_of_curved []
  d_tell_curved : Dx K mg "tell_curved" s_tell_curved []
  d_is_form : Dx K mg "is_form" s_is_form []
  d_is_ranked : Dx K mg "is_ranked" s_is_ranked []
  d_cells_of_ranked : Dx K mg "cells_of_ranked" s_cells_of_ranked []
  d_tell_ranked : Dx K mg "tell_ranked" s_tell_ranked []
  d_row_of : Dx K mg "row_of" s_row_of []
  d_is_stage : Dx K mg "is_stage" s_is_stage []
  d_has_no_divisor : Dx K mg "has_no_divisor" s_has_no_divisor []
  d_made_of : Dx K mg "made_of" s_made_of []
  d_shape_by : Dx K mg "shape_by" s_shape_by []
  d_told_by : Dx K mg "told_by" s_told_by []
  d_first_missing : Dx K mg "first_missing" s_first_missing []
  d_in_order : Dx K mg "in_order" s_in_order []
  d_shapes_of : Dx K mg "shapes_of" s_shapes_of []
  d_numbers_at : Dx K mg "numbers_at" s_numbers_at []
  d_planes_by : Dx K mg "planes_by" s_planes_by []
  d_must_be_there : Dx K mg "must_be_there" s_must_be_there []
  d_must_be_window : Dx K mg "must_be_window" s_must_be_window []
  d_law_pen : Dx K mg "_law_pen" s_law_pen []
  d_law_draw : Dx K mg "_law_draw" s_law_draw []
  d_law_planes : Dx K mg "_law_planes" s_law_planes []
  d_law_picture : Dx K mg "_law_picture" s_law_picture []
  d_law_border : Dx K mg "_law_border" s_law_border []
  d_law_window : Dx K mg "_law_window" s_law_window []
  d_law_form : Dx K mg "_law_form" s_law_form []
  d_law_sorted_table : Dx K mg "_law_sorted_table" s_law_sorted_table []
  d_law_within : Dx K mg "_law_within" s_law_within []
  d_law : Dx K mg "law" s_law []
  dPicture_init : Mx K "Picture" "__init__" "Picture.__init__" sPicture_init [("left", V.int 0), ("up", V.int 0), ("depth", V.int 255)]
  dPicture_window : Mx K "Picture" "window" "Picture.window" sPicture_window []
  dPicture_at : Mx K "Picture" "at" "Picture.at" sPicture_at [("plane", V.int 0)]
  dPicture_eq : Mx K "Picture" "__eq__" "Picture.__eq__" sPicture_eq []
  dNet_init : Mx K "Net" "__init__" "Net.__init__" sNet_init []
  dNet_put : Mx K "Net" "put" "Net.put" sNet_put []
  dNet_whole : Mx K "Net" "whole" "Net.whole" sNet_whole []
  cl_Picture : Cls K (He.ga K "Picture")
  mk_Picture : Mk K (He.ga K "Picture") (He.ma K (He.ga K "Picture") "__init__")
  cl_Net : Cls K (He.ga K "Net")
  mk_Net : Mk K (He.ga K "Net") (He.ma K (He.ga K "Net") "__init__")
  na_planes : NoAttr K (He.ga K "Picture") "planes"
  na_left : NoAttr K (He.ga K "Picture") "left"
  na_up : NoAttr K (He.ga K "Picture") "up"
  na_depth : NoAttr K (He.ga K "Picture") "depth"
  na_stages : NoAttr K (He.ga K "Net") "stages"
  na_shapes : NoAttr K (He.ga K "Net") "shapes"
  me_window : Meth K (He.ga K "Picture") "window" (He.ma K (He.ga K "Picture") "window")
  me_at : Meth K (He.ga K "Picture") "at" (He.ma K (He.ga K "Picture") "at")
  me_eq : Meth K (He.ga K "Picture") "__eq__" (He.ma K (He.ga K "Picture") "__eq__")
  me_put : Meth K (He.ga K "Net") "put" (He.ma K (He.ga K "Net") "put")
  me_whole : Meth K (He.ga K "Net") "whole" (He.ma K (He.ga K "Net") "whole")
  pic : C8.InsC K (He.ga K "Picture")
  ne_ : PySem.W.findIn K (.ref (He.ga K "Picture")) "__ne__" = some (some (.builtin "object.__ne__"))
  TABLES_ : ∀ H, SqT K H (He.ga K "TABLES") [.ref (He.ga K "GEOMETRY"), .ref (He.ga K "COLOURS"), .ref (He.ga K "FILTERS"), .ref (He.ga K "MEANS"), .ref (He.ga K "SUMS")]
  BORDERS_ : ∀ H, SqT K H (He.ga K "BORDERS") [.str "near", .str "wrapped", .str "mirrored"]
  row_source : ∃ a, PySem.W.nsIn K (He.ga K "GEOMETRY") "source" = some (some (.ref a)) ∧ ∀ H, SqT K H a [.int 0, .int 3, .ref (He.ga K "is_source"), .ref (He.ga K "shape_of_source"), .ref (He.ga K "cells_of_source"), .ref (He.ga K "tell_source")]
  row_curved : ∃ a, PySem.W.nsIn K (He.ga K "GEOMETRY") "curved" = some (some (.ref a)) ∧ ∀ H, SqT K H a [.int 1, .int 4, .ref (He.ga K "is_curved"), .ref (He.ga K "shape_of_curved"), .ref (He.ga K "cells_of_own"), .ref (He.ga K "tell_curved")]
  row_ranked : ∃ a, PySem.W.nsIn K (He.ga K "FILTERS") "ranked" = some (some (.ref a)) ∧ ∀ H, SqT K H a [.int 1, .int 4, .ref (He.ga K "is_ranked"), .ref (He.ga K "same_shape"), .ref (He.ga K "cells_of_ranked"), .ref (He.ga K "tell_ranked")]
  no_GEOMETRY : PySem.W.nsIn K (He.ga K "GEOMETRY") "ranked" = some none
  no_COLOURS : PySem.W.nsIn K (He.ga K "COLOURS") "ranked" = some none
  by_source : PySem.W.nsIn K (He.ga K "PLACES_OF_BY") "source" = some none
  by_curved : PySem.W.nsIn K (He.ga K "PLACES_OF_BY") "curved" = some none
  by_ranked : PySem.W.nsIn K (He.ga K "PLACES_OF_BY") "ranked" = some none
  kd_GEOMETRY : ∃ es n, KDict K w (He.ga K "GEOMETRY") es n
  kd_COLOURS : ∃ es n, KDict K w (He.ga K "COLOURS") es n
  kd_FILTERS : ∃ es n, KDict K w (He.ga K "FILTERS") es n
  kd_PLACES_OF_BY : ∃ es n, KDict K w (He.ga K "PLACES_OF_BY") es n

/-! ### defs that may be called -/
structure Cal (P : Program) (w : World) (K : PySem.W.Frag) (mg : Str → Option Value) (base : Heap) (k : Nat) (x : Str) (sp : Sp) (dvs : List V) : Prop where
  ex : ∃ (fd : FuncData) (ps : List Str) (ds : List Value), FnOk P w K mg base CX0 k (He.ga K x) fd ps sp ∧ mg x = some (.ref (He.ga K x)) ∧ PySem.W.keepIn K (.ref (He.ga K x)) = true ∧ Binds K fd ps ds ∧ Vals dvs ds
structure CalA (P : Program) (w : World) (K : PySem.W.Frag) (mg : Str → Option Value) (base : Heap) (k : Nat) (f : Addr) (sp : Sp) : Prop where
  ex : ∃ (fd : FuncData) (ps : List Str), FnOk P w K mg base CX0 k f fd ps sp ∧ PySem.W.keepIn K (.ref f) = true ∧ Binds K fd ps []
/-- with keywords: n values by place, the names ks -/
structure CalN (P : Program) (w : World) (K : PySem.W.Frag) (mg : Str → Option Value) (base : Heap) (k : Nat) (x : Str) (sp : Sp) (n : Nat) (ks : List Str) (gV : List V → List V → List V) : Prop where
  ex : ∃ (fd : FuncData) (ps : List Str) (g : List Value → List Value → List Value), FnOk P w K mg base CX0 k (He.ga K x) fd ps sp ∧ mg x = some (.ref (He.ga K x)) ∧ PySem.W.keepIn K (.ref (He.ga K x)) = true ∧ KBn K fd ps n ks g gV
structure Met (P : Program) (w : World) (K : PySem.W.Frag) (mg : Str → Option Value) (base : Heap) (k : Nat) (C : Addr) (m : Str) (sp : Sp) : Prop where
  ex : ∃ (f : Addr) (fd : FuncData) (ps : List Str), Cls K C ∧ Meth K C m f ∧ FnOk P w K mg base CX0 k f fd ps sp ∧ Binds K fd ps []
structure MetN (P : Program) (w : World) (K : PySem.W.Frag) (mg : Str → Option Value) (base : Heap) (k : Nat) (C : Addr) (m : Str) (sp : Sp) (n : Nat) (ks : List Str) (gV : List V → List V → List V) : Prop where
  ex : ∃ (f : Addr) (fd : FuncData) (ps : List Str) (g : List Value → List Value → List Value), Cls K C ∧ Meth K C m f ∧ FnOk P w K mg base CX0 k f fd ps sp ∧ KBn K fd ps n ks g gV
structure MakN (P : Program) (w : World) (K : PySem.W.Frag) (mg : Str → Option Value) (base : Heap) (k : Nat) (x : Str) (sp : Sp) (n : Nat) (ks : List Str) (gV : List V → List V → List V) : Prop where
  ex : ∃ (f : Addr) (fd : FuncData) (ps : List Str) (g : List Value → List Value → List Value), Mk K (He.ga K x) f ∧ FnOk P w K mg base CX0 k f fd ps sp ∧ mg x = some (.ref (He.ga K x)) ∧ KBn K fd ps (n + 1) ks g gV
section
variable {P : Program} {w : World} {K : PySem.W.Frag} {mg : Str → Option Value} {base : Heap} {x m q : Str} {st : Stmt} {N ps : List Str} {k : Nat} {sp sp' : Sp}
theorem Cal.at_ (c : Cal P w K mg base k x sp []) : CalA P w K mg base k (He.ga K x) sp := by
  obtain ⟨fd, ps, ds, F, hm, kp, b, d⟩ := c.ex
  cases d
  exact ⟨fd, ps, F, kp, b⟩
theorem CalA.mono {j : Nat} {f : Addr} (c : CalA P w K mg base j f sp) (h : j ≤ k) : CalA P w K mg base k f sp := by
  obtain ⟨fd, ps, F, kp, b⟩ := c.ex
  exact ⟨fd, ps, F.mono h, kp, b⟩
theorem Cal.mono {j : Nat} {dvs : List V} (c : Cal P w K mg base j x sp dvs) (h : j ≤ k) : Cal P w K mg base k x sp dvs := by
  obtain ⟨fd, ps, ds, F, r⟩ := c.ex
  exact ⟨fd, ps, ds, F.mono h, r⟩
theorem Cal.imp {dvs : List V} (c : Cal P w K mg base k x sp dvs) (h : ∀ vs H Q E, sp' vs H Q E → sp vs H Q E) : Cal P w K mg base k x sp' dvs := by
  obtain ⟨fd, ps, ds, F, r⟩ := c.ex
  exact ⟨fd, ps, ds, F.imp h, r⟩
theorem CalA.imp {f : Addr} (c : CalA P w K mg base k f sp) (h : ∀ vs H Q E, sp' vs H Q E → sp vs H Q E) : CalA P w K mg base k f sp' := by
  obtain ⟨fd, ps, F, r⟩ := c.ex
  exact ⟨fd, ps, F.imp h, r⟩
/-- a def's promise by its body -/
theorem cal_of (D : Dx K mg x st []) (S : FnScope N ps (defScope st))
    (hb : ∀ (kV doc pm : Value) (an : Option Addr) (cdv ct : Value) (us : List Value), us.length = ps.length → bindArgs (PySem.W.fnOf x x (defArgs st) (defBody st) (defScope st) .none kV doc pm an cdv ct) ⟨us, []⟩ = pure (ps.zip us))
    (len : ∀ vs H Q E, sp vs H Q E → vs.length = ps.length)
    (hbody : ∀ (cdv : Value) (A : Around) (outer : List Env) (s : Shared) (H : Hp) (vs : List V) (Q : VK) (E : XK), Room k (A.deeper (envOfC x (defScope st) s.heap.objs.size (He.ga K x) cdv)) → sp vs H Q E →
      ∃ t, PSs (cxOf CX0 P w K mg base N x (defScope st) (He.ga K x) cdv A outer s H E).nox (defBody st) t ∧ t { nx := fun _ H' => Q .non H', rt := Q } (start N vs) H) : Cal P w K mg base (k + 1) x sp [] := by
  obtain ⟨⟨fd, F⟩, hm⟩ := D
  refine ⟨fd, ps, [], F.ok S len fun cdv A outer s H vs Q E hr h => ?_, hm, F.kp, F.bindsN hb, .nil⟩
  obtain ⟨t, h1, h2⟩ := hbody cdv A outer s H vs Q E hr h
  exact ⟨t, h1.nox, h2⟩
/-- .. of a def with keyword-only defaults, by its body: the function's own promise -/
theorem fn_kw {kws : List (Str × V)} {f : Addr} {fd : FuncData} (F : FunD K x q (defArgs st) (defBody st) (defScope st) [] kws f fd) (S : FnScope N ps (defScope st)) (len : ∀ vs H Q E, sp vs H Q E → vs.length = ps.length)
    (hbody : ∀ (cdv : Value) (A : Around) (outer : List Env) (s : Shared) (H : Hp) (vs : List V) (Q : VK) (E : XK), Room k (A.deeper (envOfC q (defScope st) s.heap.objs.size f cdv)) → sp vs H Q E →
      ∃ t, PSs (cxOf CX0 P w K mg base N q (defScope st) f cdv A outer s H E).nox (defBody st) t ∧ t { nx := fun _ H' => Q .non H', rt := Q } (start N vs) H) : FnOk P w K mg base CX0 (k + 1) f fd ps sp := by
  refine F.ok S len fun cdv A outer s H vs Q E hr h => ?_
  obtain ⟨t, h1, h2⟩ := hbody cdv A outer s H vs Q E hr h
  exact ⟨t, h1.nox, h2⟩
/-- a method's promise by its body -/
theorem met_of {C : Addr} {f : Addr} {fd : FuncData} (c : Cls K C) (me : Meth K C m f) (F : FunD K m q (defArgs st) (defBody st) (defScope st) [] [] f fd) (S : FnScope N ps (defScope st))
    (hb : ∀ (kV doc pm : Value) (an : Option Addr) (cdv ct : Value) (us : List Value), us.length = ps.length → bindArgs (PySem.W.fnOf m q (defArgs st) (defBody st) (defScope st) .none kV doc pm an cdv ct) ⟨us, []⟩ = pure (ps.zip us))
    (len : ∀ vs H Q E, sp vs H Q E → vs.length = ps.length)
    (hbody : ∀ (cdv : Value) (A : Around) (outer : List Env) (s : Shared) (H : Hp) (vs : List V) (Q : VK) (E : XK), Room k (A.deeper (envOfC q (defScope st) s.heap.objs.size f cdv)) → sp vs H Q E →
      ∃ t, PSs (cxOf CX0 P w K mg base N q (defScope st) f cdv A outer s H E).nox (defBody st) t ∧ t { nx := fun _ H' => Q .non H', rt := Q } (start N vs) H) : Met P w K mg base (k + 1) C m sp :=
  ⟨f, fd, ps, c, me, fn_kw F S len hbody, F.bindsN hb⟩
end
section
variable {X : Cx} {k j i n : Nat} {C : Addr} {x m : Str} {sp : Sp} {dvs : List V} {p pos apos : Pos} {e o : Expr} {es : List Expr} {ta : TE} {t tk : TA} {ks : List Str} {kws : List Keyword} {gV : List V → List V → List V}
theorem pe_c (c : Cal X.prog X.w X.K X.mg X.base k x sp dvs) (hr : Room j X.A) (hk : k ≤ j) (hg : Gl X x) (ha : PA X (e :: es) t)
    (hdb : (x == ("__debug__" : Str)) = false := by decide) (he : starEach (e :: es) X.env = (false, eval e X.env) :: starEach es X.env := by rfl) (hpl : (backTo pos (starEach es X.env)).any (·.1) = false := by rfl) :
    PE X (.Call (.Name x p) (e :: es) [] pos) (tCall sp dvs E0 t) := by
  obtain ⟨fd, ps, ds, F, hm, kp, b, d⟩ := c.ex
  exact pe_call F (hr.mono hk) hg hm kp b d pass0 ha hdb he hpl
theorem pe_cN (c : CalN X.prog X.w X.K X.mg X.base k x sp n ks gV) (hr : Room j X.A) (hk : k ≤ j) (hg : Gl X x) (ha : PA X (e :: es) t) (hkw : PK X kws tk)
    (hall : (backToKw pos (keywordEach kws X.env)).all (·.1.isSome) = true := by rfl) (hks : (backToKw pos (keywordEach kws X.env)).filterMap (·.1) = ks := by rfl)
    (hdb : (x == ("__debug__" : Str)) = false := by decide) (he : starEach (e :: es) X.env = (false, eval e X.env) :: starEach es X.env := by rfl)
    (hpl : ((backTo pos (starEach (e :: es) X.env)).any (·.1) || (backToKw pos (keywordEach kws X.env)).any (·.1.isNone)) = false := by rfl) :
    PE X (.Call (.Name x p) (e :: es) kws pos) (tCallN n ks.length sp gV E0 t tk) := by
  obtain ⟨fd, ps, g, F, hm, kp, b⟩ := c.ex
  exact pe_callN F (hr.mono hk) hg hm kp b pass0 ha hkw hall hks hdb he hpl
theorem pe_mkN (c : MakN X.prog X.w X.K X.mg X.base k x sp n ks gV) (hr : Room j X.A) (hk : k + 1 ≤ j) (hg : Gl X x) (ha : PA X (e :: es) t) (hkw : PK X kws tk)
    (hall : (backToKw pos (keywordEach kws X.env)).all (·.1.isSome) = true := by rfl) (hks : (backToKw pos (keywordEach kws X.env)).filterMap (·.1) = ks := by rfl)
    (hdb : (x == ("__debug__" : Str)) = false := by decide) (he : starEach (e :: es) X.env = (false, eval e X.env) :: starEach es X.env := by rfl)
    (hpl : ((backTo pos (starEach (e :: es) X.env)).any (·.1) || (backToKw pos (keywordEach kws X.env)).any (·.1.isNone)) = false := by rfl) :
    PE X (.Call (.Name x p) (e :: es) kws pos) (tMakeK (He.ga X.K x) n ks.length sp gV E0 t tk) := by
  obtain ⟨f, fd, ps, g, M, F, hm, b⟩ := c.ex
  exact pe_makeK M F (hr.mono hk) hg hm b pass0 ha hkw hall hks hdb he hpl
theorem pe_mt {pl : Sem Bool} (c : Met X.prog X.w X.K X.mg X.base k C m sp) (hr : Room j X.A) (hk : k ≤ j) (he : PE X o ta) (ha : PA X (e :: es) t)
    (hst : starEach (e :: es) X.env = (false, eval e X.env) :: starEach es X.env := by rfl) (hpl : (backTo pos (starEach es X.env)).any (·.1) = false := by rfl)
    (ht : eval (.Call (.Attribute o m apos) (e :: es) [] pos) X.env = (do
      let ov ← eval o X.env
      standAt apos.atName
      let (f, first) ← holding [ov] (getMethod ov m pl)
      callWith pos f first (backTo pos (starEach (e :: es) X.env)) (backToKw pos (keywordEach [] X.env))) := by rfl) :
    PE X (.Call (.Attribute o m apos) (e :: es) [] pos) (tMeth C m sp [] E0 ta t) := by
  obtain ⟨f, fd, ps, hc, hm, F, b⟩ := c.ex
  exact pe_meth (pl := pl) he hc hm F (hr.mono hk) b .nil pass0 ha hst hpl ht
theorem pe_mt0 {pl : Sem Bool} (c : Met X.prog X.w X.K X.mg X.base k C m sp) (hr : Room j X.A) (hk : k ≤ j) (he : PE X o ta)
    (ht : eval (.Call (.Attribute o m apos) [] [] pos) X.env = (do
      let ov ← eval o X.env
      standAt apos.atName
      let (f, first) ← holding [ov] (getMethod ov m pl)
      callWith pos f first (backTo pos (starEach [] X.env)) (backToKw pos (keywordEach [] X.env))) := by rfl) :
    PE X (.Call (.Attribute o m apos) [] [] pos) (tMeth C m sp [] E0 ta tNil) := by
  obtain ⟨f, fd, ps, hc, hm, F, b⟩ := c.ex
  exact pe_meth0 (pl := pl) he hc hm F (hr.mono hk) b .nil pass0 ht
theorem pe_mtN {pl : Sem Bool} (c : MetN X.prog X.w X.K X.mg X.base k C m sp n ks gV) (hr : Room j X.A) (hk : k ≤ j) (he : PE X o ta) (ha : PA X (e :: es) t) (hkw : PK X kws tk)
    (hall : (backToKw pos (keywordEach kws X.env)).all (·.1.isSome) = true := by rfl) (hks : (backToKw pos (keywordEach kws X.env)).filterMap (·.1) = ks := by rfl)
    (hst : starEach (e :: es) X.env = (false, eval e X.env) :: starEach es X.env := by rfl) (hpl : ((backTo pos (starEach (e :: es) X.env)).any (·.1) || (backToKw pos (keywordEach kws X.env)).any (·.1.isNone)) = false := by rfl)
    (ht : eval (.Call (.Attribute o m apos) (e :: es) kws pos) X.env = (do
      let ov ← eval o X.env
      standAt apos.atName
      let (f, first) ← holding [ov] (getMethod ov m pl)
      callWith pos f first (backTo pos (starEach (e :: es) X.env)) (backToKw pos (keywordEach kws X.env))) := by rfl) :
    PE X (.Call (.Attribute o m apos) (e :: es) kws pos) (tMethN C m n ks.length sp gV ta t tk) := by
  obtain ⟨f, fd, ps, g, hc, hm, F, b⟩ := c.ex
  exact pe_methN (pl := pl) he hc hm F (hr.mono hk) b ha hkw hall hks hst hpl ht
/-- a name that holds a def of the text, called -/
def tCallF (X : Cx) (j i : Nat) (t : TA) : TE := fun σ H Q => ∃ f sp, σ[i]? = some (some (.ref f)) ∧ CalA X.prog X.w X.K X.mg X.base j f sp ∧ t σ H fun vs H1 => sp vs H1 Q E0
theorem pe_callF (hr : Room j X.A) (hN : X.N[i]? = some x) (hv : Vis X.env.scope x) (ha : PA X (e :: es) t)
    (hdb : (x == ("__debug__" : Str)) = false := by decide) (hcd : (x == ("__classdict__" : Str)) = false := by decide)
    (he : starEach (e :: es) X.env = (false, eval e X.env) :: starEach es X.env := by rfl) (hpl : (backTo pos (starEach es X.env)).any (·.1) = false := by rfl) : PE X (.Call (.Name x p) (e :: es) [] pos) (tCallF X j i t) := by
  constructor
  intro pins s σ H Q I h
  obtain ⟨f, sp, hs, c, ht⟩ := h
  obtain ⟨fd, ps, F, kp, b⟩ := c.ex
  refine (pe_callL (i := i) (f := f) (sp := sp) (dvs := []) (E := E0) F hr hN hv kp b .nil pass0 ha hdb hcd he hpl).run pins s σ H Q I ⟨hs, ?_⟩
  have e0 : (fun (vs : List V) (H1 : Hp) => sp (vs ++ []) H1 Q E0) = fun vs H1 => sp vs H1 Q E0 := by
    funext vs H1
    rw [List.append_nil]
  show t σ H (fun vs H1 => sp (vs ++ []) H1 Q E0)
  rw [e0]
  exact ht
end
end K22
end
section
/-! ### comprehensions whose elements are told one by one -/
namespace K22
open PySem PySem.Spec PyProof.Rows L2
/-- tuples stay -/
def TupS (H H' : Hp) : Prop := ∀ b zs, H b = some (.tup zs) → H' b = some (.tup zs)
theorem TupS.of {H H' : Hp} (h : Same H H') : TupS H H' := fun b zs e => h b _ e
theorem TupS.refl (H : Hp) : TupS H H := fun _ _ e => e
theorem TupS.trans {H H1 H2 : Hp} (a : TupS H H1) (b : TupS H1 H2) : TupS H H2 := fun c zs e => b c zs (a c zs e)
theorem TupS.lst {H : Hp} {D : Addr} {acc acc' : List V} (h : H D = some (.lst acc)) : TupS H (upd H D (.lst acc')) := fun b zs e => by
  rw [upd_ne (ne_of e h (by intro z; cases z))]
  exact e
theorem _root_.L2.Same.new {H : Hp} {p : Addr} {o : HO} (h : H p = none) : Same H (upd H p o) := fun b u e => by
  rw [upd_ne (ne_of_none e h)]
  exact e
theorem _root_.L2.Same.to {H H' : Hp} {p : Addr} {o : HO} (s : Same H H') (h : H p = none) : Same H (upd H' p o) := fun b u e => by
  rw [upd_ne (ne_of_none e h)]
  exact s b u e
theorem _root_.L2.Same.to' {H H' : Hp} {p : Addr} {o : HO} (s : Same H H') (h : H p = none) : Same H (upd H' p o) := s.to h
theorem _root_.L2.Same.sqt {K : PySem.W.Frag} {H H' : Hp} {a : Addr} {xs : List V} (e : Same H H') (h : SqT K H a xs) : SqT K H' a xs := by
  rcases h with h | h
  · rcases h with h | h
    · exact .inl (.inl (e _ _ h))
    · obtain ⟨o, h⟩ := h
      exact .inl (.inr ⟨o, e _ _ h⟩)
  · exact .inr h
theorem q_true {Q : VK} {H : Hp} {p : Prop} [Decidable p] (h : p) (q : Q (.bl true) H) : Q (.bl (decide p)) H := by
  rw [decide_eq_true h]
  exact q
theorem q_false {Q : VK} {H : Hp} {p : Prop} [Decidable p] (h : ¬ p) (q : Q (.bl false) H) : Q (.bl (decide p)) H := by
  rw [decide_eq_false h]
  exact q
/-- a test whose answer is known -/
theorem if_true {p A B : Prop} [Decidable p] (h : p) (a : A) : if decide p = true then A else B := by
  rw [decide_eq_true h]
  exact iteT a
theorem if_false {p A B : Prop} [Decidable p] (h : ¬ p) (b : B) : if decide p = true then A else B := by
  rw [decide_eq_false h]
  exact iteF b
theorem if_nottrue {p A B : Prop} [Decidable p] (h : p) (b : B) : if (!decide p) = true then A else B := by
  rw [decide_eq_true h]
  exact iteF b
theorem if_notfalse {p A B : Prop} [Decidable p] (h : ¬ p) (a : A) : if (!decide p) = true then A else B := by
  rw [decide_eq_false h]
  exact iteT a
theorem line_lt {n : Nat} (h : n < 100000) : n < sizeLine := Nat.lt_of_lt_of_le h (by decide)
theorem line_le {n : Nat} (h : n ≤ 100000) : n ≤ sizeLine := Nat.le_trans h (by decide)
/-- what a comprehension's reading asks where its iterator stands -/
abbrev LcW (J : It) (g : TG) (te : TE) (vs : List Nat) (σ : L2.St) (H1 : Hp) (D : Addr) (Qd : Hp → Prop) : Prop :=
  ∃ W : Nat → Nat → Hp → Prop, (∃ m, W 0 m (upd H1 D (.lst []))) ∧ ∀ i m H, W i m H →
    (J.stop i H ∧ Qd H) ∨ (J.go i H ∧ ∃ Nx : Hp → Prop, (∀ H', Nx H' → ∃ m', m' < m ∧ W (i + 1) m' H') ∧
      ∀ x H', J.yld i H x H' → g x (wipe σ vs) H' fun σ2 H2 => wipe σ2 vs = wipe σ vs ∧ tYes σ2 H2 fun b H3 =>
        if b = true then te σ2 H3 fun y H4 => ∃ acc, H4 D = some (.lst acc) ∧ acc.length < sizeLine ∧ Nx (upd H4 D (.lst (acc ++ [y]))) else Nx H3)
section
variable {K : PySem.W.Frag} {a : Addr} {xs : List V} {g : TG} {te : TE} {vs : List Nat} {σ : L2.St} {H1 : Hp} {D : Addr} {Qd : Hp → Prop} {lo : Int} {n : Nat}
/-- the list so far -/
def SoFar (D : Addr) (Jv : Hp → Prop) (F : Nat → V → Hp → Prop) (i : Nat) (H : Hp) : Prop :=
  Jv H ∧ ∃ acc, H D = some (.lst acc) ∧ acc.length = i ∧ ∀ k y, acc[k]? = some y → F k y H
theorem sofar_next {Jv : Hp → Prop} {F : Nat → V → Hp → Prop} {i : Nat} {H : Hp} {acc : List V} {y : V} (hJ : ∀ H acc acc', Jv H → H D = some (.lst acc) → Jv (upd H D (.lst acc')))
    (hF : ∀ i y H H', TupS H H' → F i y H → F i y H') (j : Jv H) (hD : H D = some (.lst acc)) (hl : acc.length = i) (ho : ∀ k y, acc[k]? = some y → F k y H) (hy : F i y H) : SoFar D Jv F (i + 1) (upd H D (.lst (acc ++ [y]))) := by
  refine ⟨hJ _ _ _ j hD, acc ++ [y], upd_same, by rw [List.length_append, hl]; rfl, fun k z e => ?_⟩
  refine hF _ _ _ _ (TupS.lst hD) ?_
  by_cases hk : k < acc.length
  · rw [List.getElem?_append_left hk] at e
    exact ho k z e
  · have hk2 := (List.getElem?_eq_some_iff.mp e).1
    rw [List.length_append] at hk2
    have ek : k = acc.length := by
      have : ([y] : List V).length = 1 := rfl
      omega
    subst ek
    rw [List.getElem?_append_right (Nat.le_refl _), Nat.sub_self] at e
    cases e
    rw [← hl] at hy
    exact hy
/-- what one turn's proof goes on with -/
abbrev TurnTo (D : Addr) (Jv : Hp → Prop) (F : Nat → V → Hp → Prop) (i : Nat) (H : Hp) (acc : List V) (Fin : V → Hp → Prop) : Prop :=
  ∀ y H4, Jv H4 → H4 D = some (.lst acc) → TupS H H4 → F i y H4 → Fin y H4
theorem lc_tupG (Jv : Hp → Prop) (F : Nat → V → Hp → Prop) (h0 : Jv (upd H1 D (.lst []))) (hl : ∀ H, Jv H → SqT K H a xs) (hJ : ∀ H acc acc', Jv H → H D = some (.lst acc) → Jv (upd H D (.lst acc')))
    (hF : ∀ i y H H', TupS H H' → F i y H → F i y H') (hn : xs.length ≤ 100000)
    (hs : ∀ i x H acc (Fin : V → Hp → Prop), xs[i]? = some x → Jv H → H D = some (.lst acc) → TurnTo D Jv F i H acc Fin → g x (wipe σ vs) H fun σ2 H2 => wipe σ2 vs = wipe σ vs ∧ te σ2 H2 Fin)
    (hd : ∀ H acc, Jv H → H D = some (.lst acc) → acc.length = xs.length → (∀ i y, acc[i]? = some y → F i y H) → Qd H) : LcW (Itt K a) g te vs σ H1 D Qd := by
  refine lc_tup (xs := xs) (SoFar D Jv F) ⟨h0, [], upd_same, rfl, fun k y e => by simp at e⟩ (fun i H _ p => hl H p.1) (fun i x H hx p => ?_) fun H p => ?_
  · obtain ⟨j, acc, hD, hlen, ho⟩ := p
    have hi : i < xs.length := (List.getElem?_eq_some_iff.mp hx).1
    exact hs i x H acc (fun y H4 => ∃ acc, H4 D = some (.lst acc) ∧ acc.length < sizeLine ∧ SoFar D Jv F (i + 1) (upd H4 D (.lst (acc ++ [y])))) hx j hD fun y H4 j4 hD4 ts f =>
      ⟨acc, hD4, line_lt (by omega), sofar_next hJ hF j4 hD4 hlen (fun k y e => hF _ _ _ _ ts (ho k y e)) f⟩
  · obtain ⟨j, acc, hD, hlen, ho⟩ := p
    exact hd H acc j hD hlen ho
theorem lc_lstG (Jv : Hp → Prop) (F : Nat → V → Hp → Prop) (h0 : Jv (upd H1 D (.lst []))) (hl : ∀ H, Jv H → SqL K H a xs) (hJ : ∀ H acc acc', Jv H → H D = some (.lst acc) → Jv (upd H D (.lst acc')))
    (hF : ∀ i y H H', TupS H H' → F i y H → F i y H') (hn : xs.length ≤ 100000)
    (hs : ∀ i x H acc (Fin : V → Hp → Prop), xs[i]? = some x → Jv H → H D = some (.lst acc) → TurnTo D Jv F i H acc Fin → g x (wipe σ vs) H fun σ2 H2 => wipe σ2 vs = wipe σ vs ∧ te σ2 H2 Fin)
    (hd : ∀ H acc, Jv H → H D = some (.lst acc) → acc.length = xs.length → (∀ i y, acc[i]? = some y → F i y H) → Qd H) : LcW (Itl K a) g te vs σ H1 D Qd := by
  refine lc_list (xs := xs) (SoFar D Jv F) ⟨h0, [], upd_same, rfl, fun k y e => by simp at e⟩ (fun i H _ p => hl H p.1) (fun i x H hx p => ?_) fun H p => ?_
  · obtain ⟨j, acc, hD, hlen, ho⟩ := p
    have hi : i < xs.length := (List.getElem?_eq_some_iff.mp hx).1
    exact hs i x H acc (fun y H4 => ∃ acc, H4 D = some (.lst acc) ∧ acc.length < sizeLine ∧ SoFar D Jv F (i + 1) (upd H4 D (.lst (acc ++ [y])))) hx j hD fun y H4 j4 hD4 ts f =>
      ⟨acc, hD4, line_lt (by omega), sofar_next hJ hF j4 hD4 hlen (fun k y e => hF _ _ _ _ ts (ho k y e)) f⟩
  · obtain ⟨j, acc, hD, hlen, ho⟩ := p
    exact hd H acc j hD hlen ho
theorem lc_rngG (Jv : Hp → Prop) (F : Nat → V → Hp → Prop) (h0 : Jv (upd H1 D (.lst []))) (hJ : ∀ H acc acc', Jv H → H D = some (.lst acc) → Jv (upd H D (.lst acc')))
    (hF : ∀ i y H H', TupS H H' → F i y H → F i y H') (hn : n ≤ 100000)
    (hs : ∀ i H acc (Fin : V → Hp → Prop), i < n → Jv H → H D = some (.lst acc) → TurnTo D Jv F i H acc Fin → g (.int (lo + i)) (wipe σ vs) H fun σ2 H2 => wipe σ2 vs = wipe σ vs ∧ te σ2 H2 Fin)
    (hd : ∀ H acc, Jv H → H D = some (.lst acc) → acc.length = n → (∀ i y, acc[i]? = some y → F i y H) → Qd H) : LcW (Itr lo n) g te vs σ H1 D Qd := by
  refine lc_range (SoFar D Jv F) ⟨h0, [], upd_same, rfl, fun k y e => by simp at e⟩ (fun i H hi p => ?_) fun H p => ?_
  · obtain ⟨j, acc, hD, hlen, ho⟩ := p
    exact hs i H acc (fun y H4 => ∃ acc, H4 D = some (.lst acc) ∧ acc.length < sizeLine ∧ SoFar D Jv F (i + 1) (upd H4 D (.lst (acc ++ [y])))) hi j hD fun y H4 j4 hD4 ts f =>
      ⟨acc, hD4, line_lt (by omega), sofar_next hJ hF j4 hD4 hlen (fun k y e => hF _ _ _ _ ts (ho k y e)) f⟩
  · obtain ⟨j, acc, hD, hlen, ho⟩ := p
    exact hd H acc j hD hlen ho
theorem lc_strG {z : Str} (Jv : Hp → Prop) (F : Nat → V → Hp → Prop) (h0 : Jv (upd H1 D (.lst []))) (hJ : ∀ H acc acc', Jv H → H D = some (.lst acc) → Jv (upd H D (.lst acc')))
    (hF : ∀ i y H H', TupS H H' → F i y H → F i y H') (hn : z.cps.size ≤ 100000)
    (hs : ∀ i c H acc (Fin : V → Hp → Prop), z.cps[i]? = some c → Jv H → H D = some (.lst acc) → TurnTo D Jv F i H acc Fin → g (.str ⟨#[c]⟩) (wipe σ vs) H fun σ2 H2 => wipe σ2 vs = wipe σ vs ∧ te σ2 H2 Fin)
    (hd : ∀ H acc, Jv H → H D = some (.lst acc) → acc.length = z.cps.size → (∀ i y, acc[i]? = some y → F i y H) → Qd H) : LcW (Its z) g te vs σ H1 D Qd := by
  refine ⟨fun i m H => m = z.cps.size - i ∧ i ≤ z.cps.size ∧ SoFar D Jv F i H, ⟨z.cps.size, by simp, Nat.zero_le _, h0, [], upd_same, rfl, fun k y e => by simp at e⟩, ?_⟩
  rintro i m H ⟨rfl, hi, p⟩
  by_cases hlt : i < z.cps.size
  · refine .inr ⟨hlt, SoFar D Jv F (i + 1), fun H' p' => ⟨z.cps.size - (i + 1), by omega, rfl, hlt, p'⟩, fun x H' y => ?_⟩
    obtain ⟨e, c, hc, ex⟩ := y
    subst e ex
    obtain ⟨j, acc, hD, hlen, ho⟩ := p
    exact hs i c H' acc (fun y H4 => ∃ acc, H4 D = some (.lst acc) ∧ acc.length < sizeLine ∧ SoFar D Jv F (i + 1) (upd H4 D (.lst (acc ++ [y])))) hc j hD fun y H4 j4 hD4 ts f =>
      ⟨acc, hD4, line_lt (by omega), sofar_next hJ hF j4 hD4 hlen (fun k y e => hF _ _ _ _ ts (ho k y e)) f⟩
  · have e : i = z.cps.size := by omega
    subst e
    obtain ⟨j, acc, hD, hlen, ho⟩ := p
    exact .inl ⟨Nat.le_refl _, hd H acc j hD hlen ho⟩
end
/-! what the list is -/
theorem acc_map {acc : List V} {n : Nat} {f : Nat → V} (hl : acc.length = n) (h : ∀ (i : Nat) y, acc[i]? = some y → y = f i) : acc = (List.range n).map f := by
  apply List.ext_getElem?
  intro i
  by_cases hi : i < n
  · have e : acc[i]? = some acc[i] := by simp [hl, hi]
    rw [e, List.getElem?_map, List.getElem?_range hi, h i _ e]
    rfl
  · rw [List.getElem?_eq_none (by omega), List.getElem?_eq_none (by simp; omega)]
theorem acc_true {acc : List V} (h : ∀ (i : Nat) y, acc[i]? = some y → y = V.bl true) : acc = (List.replicate acc.length true).map V.bl := by
  apply List.ext_getElem?
  intro i
  by_cases hi : i < acc.length
  · have e : acc[i]? = some acc[i] := by simp [hi]
    rw [e, h i _ e]
    simp [hi]
  · rw [List.getElem?_eq_none (by omega), List.getElem?_eq_none (by simp; omega)]
theorem all_true (n : Nat) : (List.replicate n true).all id = true := by
  induction n with
  | zero => rfl
  | succ n ih => rw [List.replicate_succ, List.all_cons, ih]; rfl
/-- all([..]) of such a list of True -/
theorem all_ok {K : PySem.W.Frag} {H : Hp} {D : Addr} {acc : List V} {Q : VK} (hD : H D = some (.lst acc)) (h : ∀ (i : Nat) y, acc[i]? = some y → y = V.bl true) (q : Q (.bl true) H) : rAll K [.ref D] H Q := by
  refine ⟨D, List.replicate acc.length true, rfl, SqL.of (by rw [← acc_true h]; exact hD), ?_⟩
  rw [all_true]
  exact q
/-! rules whose readings name the written part by itself -/
section
variable {X : Cx} {K : PySem.W.Frag}
def rLenK (K : PySem.W.Frag) : List V → Hp → VK → Prop := fun xs H Q => ∃ x n, xs = [x] ∧ LenV K x H n ∧ Q (.int n) H
theorem cr_lenK (e : X.K = K) : CallR X (.builtin "len") (rLenK K) := by subst e; exact call_len
theorem cr_isiK (e : X.K = K) : CallR X (.builtin "isinstance") (rIsi K) := by subst e; exact call_isi
theorem cr_allK (e : X.K = K) (hc : X.calm = true) : CallR X (.builtin "all") (rAll K) := by subst e; exact cr_all hc
theorem cr_sortedK (e : X.K = K) : CallR X (.builtin "sorted") (rSorted K) := by subst e; exact cr_sorted
theorem ix_tupK (e : X.K = K) : IxR X (rIxT K) := by subst e; exact ix_tup
theorem ix_listK (e : X.K = K) : IxR X (rIxL K) := by subst e; exact ix_list
end
theorem if_notB {b : Bool} {A B : Prop} (h : b = true) (x : B) : if (!b) = true then A else B := by subst h; exact iteF x
theorem if_B {b : Bool} {A B : Prop} (h : b = true) (x : A) : if b = true then A else B := by subst h; exact iteT x
theorem if_Bf {b : Bool} {A B : Prop} (h : b = false) (x : B) : if b = true then A else B := by subst h; exact iteF x
theorem if_notBf {b : Bool} {A B : Prop} (h : b = false) (x : A) : if (!b) = true then A else B := by subst h; exact iteT x
theorem all_sq {K : PySem.W.Frag} {H : Hp} {D : Addr} {acc : List V} (hD : H D = some (.lst acc)) (h : ∀ (i : Nat) y, acc[i]? = some y → y = V.bl true) : SqL K H D ((List.replicate acc.length true).map V.bl) := SqL.of (by rw [← acc_true h]; exact hD)
end K22
end
section
/-! ### more rules with the written part named -/
namespace K22
open PySem PySem.Spec PyProof.Rows L2
section
variable {X : Cx} {K : PySem.W.Frag} {tg l : Expr} {tl : TE}
theorem pi_tupK (e : X.K = K) (hl : PE X l tl) : PI X tg l (iTup K tl) := by subst e; exact pi_tup hl
theorem pi_listK (e : X.K = K) (hl : PE X l tl) : PI X tg l (iList K tl) := by subst e; exact pi_list hl
theorem pg_tupK {es : List Expr} {k : Nat} {t : TGs} {n : Nat} {pos : Pos} (e : X.K = K) (hc : X.calm = true) (h : PGs X es t)
    (hn : (assignEach es X.env).length = n := by rfl) (hst : (assignEach es X.env).findIdx? (·.1) = none := by rfl) : PG X (.Tuple es k pos) (gTup K n t) := by subst e; exact pg_tup hc h hn hst
end
theorem call_tupleK {X : Cx} {K : PySem.W.Frag} (e : X.K = K) : CallR X (.type "tuple") (fun xs H Q => ∃ p ys, xs = [.ref p] ∧ ((SqL K H p ys ∧ ∀ l, H l = none → Q (.ref l) (upd H l (.tup ys))) ∨ (SqT K H p ys ∧ Q (.ref p) H))) := by subst e; exact call_tuple_of
theorem op_in_seqK {X : Cx} {K : PySem.W.Frag} (e : X.K = K) : OpR X (compareOp .In) (rIn K false) := by subst e; exact op_in_seq
theorem op_notIn_seqK {X : Cx} {K : PySem.W.Frag} (e : X.K = K) : OpR X (compareOp .NotIn) (rIn K true) := by subst e; exact op_notIn_seq
end K22
end
section
/-! ### set comprehensions, by a promise of what is put in -/
namespace K22
open PySem PySem.Spec PyProof.Rows L2
/-- y is put into the set; what is wanted of the heap then -/
abbrev AddR := V → Hp → (Hp → Prop) → Prop
def AddOk (Y : Cx) (D : Addr) (ar : AddR) : Prop :=
  ∀ (pn : List (Addr × Obj)) (t : Shared) (τ : L2.St) (G : Hp) (y : V) (u : Value) (Nx : Hp → Prop) (F : Value → Shared → Prop), Inv Y pn τ G t → RelV y u → ar y G Nx →
    wpAny (model Y.prog Y.w) Y.A (call (.builtin "set.add") [.ref D, u]) (fun _ t' => ∃ G', Inv Y pn τ G' t' ∧ Nx G') F t
abbrev NoX : Value → Shared → Prop := fun _ _ => False
/-- the walk's reading: W tells of each turn -/
abbrev ScW (ar : AddR) (J : It) (g : TG) (te : TE) (vs : List Nat) (σ : L2.St) (G0 : Hp) (Qd : Hp → Prop) : Prop :=
  ∃ W : Nat → Nat → Hp → Prop, (∃ m, W 0 m G0) ∧ ∀ i m G, W i m G →
    (J.stop i G ∧ Qd G) ∨ (J.go i G ∧ ∃ Nx : Hp → Prop, (∀ G', Nx G' → ∃ m', m' < m ∧ W (i + 1) m' G') ∧
      ∀ x G', J.yld i G x G' → g x (wipe σ vs) G' fun τ G2 => wipe τ vs = wipe σ vs ∧ te τ G2 fun y G4 => ar y G4 Nx)
def tSC (O0 : Addr → HO) (ar : Addr → AddR) (wi : TI) (g : TG) (te : TE) (vs : List Nat) : TE := fun σ H Q => wi σ H fun J H1 => ∀ D, H1 D = none → ScW (ar D) J g te vs σ (upd H1 D (O0 D)) fun G => Q (.ref D) G
section
variable {X : Cx} {sk : Shared} {Hk : Hp} {sc : Scope} {ce : Env} {fp : List Addr} {it D : Addr} {tn : Nat → Heap → Prop} {J : It} {tg elt : Expr} {g : TG} {te : TE} {ar : AddR} {vs : List Nat} {σ : L2.St}
/-- a footprint is free in the block where it is not told -/
theorem blk_free {τ : L2.St} {G : Hp} {t : Shared} (I : Inv (X.blk sk Hk sc ce fp) [] τ G t) (hn : ∀ b ∈ fp, G b = none) : ∀ b ∈ fp, FpOk (X.blk sk Hk sc ce fp) [] G b := by
  intro b hb
  have q := I.ok.exf b hb
  exact ⟨hn b hb, q.1, I.ok.exfs b hb, Or.inl hb, fun y c e => q.2 y c e, fun p hp => by cases (show p ∈ ([] : List (Addr × Obj)) ++ [] from hp)⟩
/-- a turn: the next thing is taken, told to the target, reckoned with and put in -/
theorem sc_turn (hc : X.calm = true) (T : Turn X.prog X.w X.K tg J fp it tn) (pg : PG (X.blk sk Hk sc ce fp) tg g) (pe : PE (X.blk sk Hk sc ce fp) elt te) (ha : AddOk (X.blk sk Hk sc ce fp) D ar)
    {i : Nat} {G : Hp} {t : Shared} {Nx : Hp → Prop} (I : Inv (X.blk sk Hk sc ce fp) [] (wipe σ vs) G t) (hn : ∀ b ∈ fp, G b = none) (st : tn i t.heap) (go : J.go i G)
    (step : ∀ x G', J.yld i G x G' → g x (wipe σ vs) G' fun τ G2 => wipe τ vs = wipe σ vs ∧ te τ G2 fun y G4 => ar y G4 Nx) :
    wpAny (model X.prog X.w) X.A (pyNext (.ref it)) (fun r t1 => ∃ u, r = some u ∧ wpAny (model X.prog X.w) X.A (letOwnedTupleGo tg (.ref it) u) (fun _ t2 => wpAny (model X.prog X.w) X.A (assign tg ce u) (fun _ t3 =>
      wpAny (model X.prog X.w) X.A (eval elt ce) (fun v t4 => wpAny (model X.prog X.w) X.A (call (.builtin "set.add") [.ref D, v]) (fun _ t5 => ∃ G', Inv (X.blk sk Hk sc ce fp) [] (wipe σ vs) G' t5 ∧ tn (i + 1) t5.heap ∧ (∀ b ∈ fp, G' b = none) ∧ Nx G') NoX t4) NoX t3) NoX t2) NoX t1) NoX t := by
  refine wpAny_mono (T.item (X.blk sk Hk sc ce fp) rfl rfl rfl hc i [] t _ G NoX I (blk_free I hn) st go) (fun r t1 h1 => ?_) fun _ _ z => z
  obtain ⟨u, er, h2⟩ := h1
  refine ⟨u, er, wpAny_mono h2 (fun _ t2 h3 => ?_) fun _ _ z => z⟩
  obtain ⟨x, G2, I2, rx, hy, st2, n2⟩ := h3
  have IP := I2.pinned (blk_free I2 n2) (T.obj _ _ st2)
  refine wpAny_mono (pg.run _ t2 _ G2 x u _ IP rx (step x G2 hy)) (fun _ t3 h4 => ?_) fun _ _ z => z
  obtain ⟨τ3, G3, I3, ew, q3⟩ := h4
  refine wpAny_mono (pe.run _ t3 τ3 G3 _ I3 q3) (fun v t4 h5 => ?_) fun _ _ z => z
  obtain ⟨y, G4, I4, ry, q4⟩ := h5
  refine wpAny_mono (ha _ t4 τ3 G4 y v Nx NoX I4 ry q4) (fun _ t5 h6 => ?_) fun _ _ z => z
  obtain ⟨G5, I5, nx⟩ := h6
  have still : ∀ b ∈ fp, ∀ o, t2.heap.get? b = some o → t5.heap.get? b = some o ∧ G5 b = none := by
    intro b hb o e
    have z := I5.pin (b, o) (List.mem_append_right _ (List.mem_append_right _ (mem_pinsAt hb e)))
    exact ⟨z.1, z.2.1⟩
  have len : (wipe σ vs).length = τ3.length := by rw [← ew, wipe_length]
  refine ⟨G5, (I5.unpinned (pins := [])).weak len fun j v e => ?_, T.keep _ _ _ st2 fun b hb o e => (still b hb o e).1, fun b hb => ?_, nx⟩
  · rw [← ew] at e
    exact (wipe_some e).1
  · obtain ⟨o, e, _⟩ := T.obj _ _ st2 b hb
    exact (still b hb o e).2
end
section
variable {X : Cx} {O0 : Addr → HO} {ar : Addr → AddR} {elt tg iter : Expr} {scope : Scope} {own : List (Str × Nat)} {pos : Pos} {wi : TI} {g : TG} {te : TE}
/-- the object of an empty set, new -/
abbrev newSetO (w : World) : Obj := { cls := .type "set", dict := none, data := .set #[] 0 (.fresh 0 0 (!w.params.followText "set-order")) }
theorem pe_scG (hc : X.calm = true) (hnew : ∀ (G : Hp) (h : Heap), ObjOk X.prog X.w G (h.push (newSetO X.w)) h.objs.size (O0 h.objs.size))
    (hadd : ∀ D sk Hk C cl fp, AddOk (X.blk sk Hk scope (compEnvC scope cl C X.env) fp) D (ar D)) (hN : X.N.Nodup) (hi : PI X tg iter wi) (ok : BlkOk X.N X.env.scope scope own)
    (hg : ∀ (sk : Shared) (Hk : Hp) (C : Addr) (cl : List (Str × Addr)) (fp : List Addr), PG (X.blk sk Hk scope (compEnvC scope cl C X.env) fp) tg g)
    (he : ∀ (sk : Shared) (Hk : Hp) (C : Addr) (cl : List (Str × Addr)) (fp : List Addr), PE (X.blk sk Hk scope (compEnvC scope cl C X.env) fp) elt te) (hs : ∀ x, foldedSetIterable iter X.env x = pure x := by intro _; rfl) :
    PE X (.SetComp elt [⟨tg, iter, [], 0⟩] scope pos) (tSC O0 ar wi g te (own.map (·.2))) := by
  constructor
  intro pins s σ H Q I h
  have clos : ∀ y ∈ scope.names, y.2 = .free → ∃ c, X.env.cells.lookup y.1 = some c := by
    intro y hy e
    cases ok.free y hy e with
    | inl k => exact I.ok.has _ (.inl k)
    | inr k => exact I.ok.has _ (.inr k)
  rw [PpSet.eval_SetComp]
  refine wpAny_comprehension_free (use := none) rfl hs (closure_ok clos) ok.kind (fun y hy e => by rw [ok.uniq y hy, e]) (wpAny_mono (hi.run pins s σ H _ I h) (fun xv t1 hx => wpAny_mono hx (fun itv t2 h2 => ?_) fun _ _ z => z) fun _ _ z => z)
  obtain ⟨it, fp, tn, J, H2, rfl, I2, T, st2, f2, q⟩ := h2
  refine PpSet.newSet_ok (newEnv_comp ?_)
  have hDn : H2 t2.heap.objs.size = none := I2.hok.fresh (Nat.le_refl _)
  obtain ⟨W, ⟨m0, w0⟩, turn⟩ := q _ hDn
  -- the set is told
  have I3 : Inv X pins σ (upd H2 t2.heap.objs.size (O0 t2.heap.objs.size)) { t2 with heap := t2.heap.push (newSetO X.w) } := I2.laid (t' := t2.toks) (fun b o e => Heap.get?_push_of_some _ e) (Nat.le_refl _) (hnew _ _)
  have low : ∀ b ∈ fp, b < t2.heap.objs.size := by
    intro b hb
    obtain ⟨o, e, _⟩ := T.obj _ _ st2 b hb
    exact Heap.lt_size e
  have f3 : ∀ b ∈ fp, FpOk X pins (upd H2 t2.heap.objs.size (O0 t2.heap.objs.size)) b ∧ b < (t2.heap.push (newSetO X.w)).objs.size := by
    intro b hb
    have lt := low b hb
    have z := f2 b hb
    refine ⟨⟨(upd_ne (Nat.ne_of_lt lt)).trans z.1, z.2⟩, ?_⟩
    rw [Heap.size_push]
    exact Nat.lt_succ_of_lt lt
  have nfp : ∀ b ∈ fp, (upd H2 t2.heap.objs.size (O0 t2.heap.objs.size)) b = none := fun b hb => (f3 b hb).1.1
  have st3 : tn 0 (t2.heap.push (newSetO X.w)) := T.keep _ _ _ st2 fun b _ o e => Heap.get?_push_of_some _ e
  have IB := block_start I3 ok hN f3
  generalize hD : t2.heap.objs.size = D at *
  generalize hG : upd H2 D (O0 D) = G0 at *
  generalize ht : ({ t2 with heap := t2.heap.push (newSetO X.w) } : Shared) = t3 at *
  have eh : t2.heap.push (newSetO X.w) = t3.heap := by rw [← ht]
  have et : t2.toks = t3.toks := by rw [← ht]
  have stB : tn 0 (pushCells (t3.heap.push { cls := .type "dict", data := .dict #[] }) scope.names) := by
    rw [eh] at st3
    exact T.keep _ _ _ st3 fun b _ o e => pushCells_keeps _ _ _ _ (Heap.get?_push_of_some _ e)
  rw [eh] at f3
  generalize hcl : cellsFrom (t3.heap.objs.size + 1) scope.names (cloFrom X.env.cells scope.names []) = cl at *
  generalize hC : t3.heap.objs.size = C at *
  generalize ht4 : ({ t3 with heap := pushCells (t3.heap.push { cls := .type "dict", data := .dict #[] }) scope.names } : Shared) = t4 at *
  have st4 : tn 0 t4.heap := by rw [← ht4]; exact stB
  have pg := hg t3 G0 C cl fp
  have pe := he t3 G0 C cl fp
  have ha := hadd D t3 G0 C cl fp
  have cL : (compEnvC scope cl C X.env).locals = C := rfl
  show codeAny _ _ (.compStart (.SetComp elt [⟨tg, iter, [], 0⟩] scope pos) 0 (.ref it) (.ref D) (compEnvC scope cl C X.env)) (compPost (model X.prog X.w) X.A X.xe none (EP X pins σ Q) (.ref D) C) _
  have loop : codeAny (model X.prog X.w) X.A (.compLoop (.SetComp elt [⟨tg, iter, [], 0⟩] scope pos) 0 (.ref it) (.ref D) (compEnvC scope cl C X.env)) (compPost (model X.prog X.w) X.A X.xe none (EP X pins σ Q) (.ref D) C) t4 := by
    refine PpSet.compLoopS_any (fun n t5 => ∃ i G, Inv (X.blk t3 G0 scope (compEnvC scope cl C X.env) fp) [] (wipe σ (own.map (·.2))) G t5 ∧ tn i t5.heap ∧ (∀ b ∈ fp, G b = none) ∧ W i n G) ?_ m0 ⟨0, G0, IB, st4, nfp, w0⟩
    rintro n t5 ⟨i, G, I5, st5, n5, w5⟩
    cases turn i n G w5 with
    | inl z =>
      obtain ⟨stop, qq⟩ := z
      refine thnF (T.done (X.blk t3 G0 scope (compEnvC scope cl C X.env) fp) rfl rfl rfl hc i [] t5 _ G NoX I5 (blk_free I5 n5) st5 stop) fun r t6 z => ?_
      obtain ⟨er, I6⟩ := z
      subst er
      have I7 : Inv X pins σ G t6 := I3.call' (ch := fp) I6.os I6.base I6.hok I6.bare fun b hb => by
        obtain ⟨⟨a0, a1, a2, a3, a4, a5⟩, _⟩ := f3 b hb
        exact ⟨a3, a1, a4, a5⟩
      have nC : G C = none := I6.free
      obtain ⟨m, ns, _⟩ := I6.loc
      have fo := I3.fpOk (b := C) (Nat.le_of_eq hC) nC
      refine ⟨m, ns, fun h' sb => ?_⟩
      obtain ⟨a0, a1, a2, a3, a4, a5⟩ := fo
      exact ⟨.ref D, G, I7.turned (t' := t6.toks) (fun b o hb e => (sb.2 b hb).trans e) a0 a1 a3 a4 a5, rfl, qq⟩
    | inr z =>
      obtain ⟨go, Nx, hNx, step⟩ := z
      refine thnF (sc_turn (σ := σ) (vs := own.map (·.2)) hc T pg pe ha I5 n5 st5 go step) fun r t6 z => ?_
      obtain ⟨u, er, h6⟩ := z
      subst er
      refine thnF h6 fun _ t7 h7 => thnF h7 fun _ t8 h8 => ?_
      refine wpAny_pure ?_
      refine thnF h8 fun v t9 h9 => thnF h9 fun _ ta hz => ?_
      obtain ⟨G', I', st', n', nx⟩ := hz
      obtain ⟨m', lt, w'⟩ := hNx G' nx
      exact ⟨m', lt, i + 1, G', I', st', n', w'⟩
  refine PpSet.codeAny_compStart_set loop ?_
  exact T.self X.A 0 _ _ _ st4 loop
end
end K22
end
section
/-! ### sets of ints, sets of tuples of ints, set(tuple), len(set) -/
namespace K22
open PySem PySem.Spec PyProof.Rows L2
/-! ints -/
def arI (w : World) (D : Addr) : AddR := fun y G Nx => ∃ (k : Int) (S : Int → Bool) (n : Nat), y = .int k ∧ G D = some (SetO w D S n) ∧ n + 1 < scanBound ∧ Nx (upd G D (SetO w D (fun j => S j || decide (j = k)) (if S k = true then n else n + 1)))
theorem add_int (Y : Cx) (D : Addr) : AddOk Y D (arI Y.w D) := by
  intro pn t τ G y u Nx Er I ry h
  obtain ⟨k, S, n, rfl, hD, room, nx⟩ := h
  obtain ⟨tk, rfl⟩ := ry
  refine setR_add (setO_get I hD) room fun h' sb new => ?_
  have there : ∃ o, h'.get? D = some o := by
    obtain ⟨o, _, _, _, ho, _⟩ := id new
    exact ⟨o, ho⟩
  exact ⟨_, I.write (e := D) (t' := t.toks + 1) (by rw [hD]; trivial) (Or.inl rfl) (fun b o hb ho => (sb.2 b hb).trans ho) there (setO_new new), nx⟩
theorem new_int {P : Program} (w : World) (G : Hp) (h : Heap) : ObjOk P w G (h.push (newSetO w)) h.objs.size (SetO w h.objs.size (fun _ => false) 0) := setO_new (setR_fresh w)
section
variable {X : Cx} {elt tg iter : Expr} {scope : Scope} {own : List (Str × Nat)} {pos : Pos} {wi : TI} {g : TG} {te : TE}
theorem pe_scI (hc : X.calm = true) (hN : X.N.Nodup) (hi : PI X tg iter wi) (ok : BlkOk X.N X.env.scope scope own)
    (hg : ∀ (sk : Shared) (Hk : Hp) (C : Addr) (cl : List (Str × Addr)) (fp : List Addr), PG (X.blk sk Hk scope (compEnvC scope cl C X.env) fp) tg g)
    (ht : ∀ (sk : Shared) (Hk : Hp) (C : Addr) (cl : List (Str × Addr)) (fp : List Addr), PTs (X.blk sk Hk scope (compEnvC scope cl C X.env) fp) [] tYes)
    (he : ∀ (sk : Shared) (Hk : Hp) (C : Addr) (cl : List (Str × Addr)) (fp : List Addr), PE (X.blk sk Hk scope (compEnvC scope cl C X.env) fp) elt te) (hs : ∀ x, foldedSetIterable iter X.env x = pure x := by intro _; rfl) :
    PE X (.SetComp elt [⟨tg, iter, [], 0⟩] scope pos) (tSC (fun p => SetO X.w p (fun _ => false) 0) (arI X.w) wi g te (own.map (·.2))) :=
  pe_scG hc (new_int X.w) (fun D sk Hk C cl fp => add_int (X.blk sk Hk scope (compEnvC scope cl C X.env) fp) D) hN hi ok hg he hs
end
/-! tuples of ints -/
def arT (P : Program) (w : World) (D : Addr) : AddR := fun y G Nx => ∃ (b : Addr) (k : List Int), y = .ref b ∧ G b = some (.tup (k.map V.int)) ∧
  ((G D = some (SetTO P w D []) ∧ Nx (upd G D (SetTO P w D [(b, k)]))) ∨ ∃ c, G c = some (.tup (k.map V.int)) ∧ G D = some (SetTO P w D [(c, k)]) ∧ Nx (upd G D (SetTO P w D [(c, k)])))
theorem add_tup (Y : Cx) (hu : Y.A.in1.units < cLine) (D : Addr) : AddOk Y D (arT Y.prog Y.w D) := by
  intro pn t τ G y u Nx Er I ry h
  obtain ⟨b, k, rfl, hb, h⟩ := h
  cases ry
  have hx : IsT Y.prog Y.w t.heap k b := I.isT (SqT.of hb)
  have key : ∀ (L : List (Addr × List Int)), G D = some (SetTO Y.prog Y.w D L) → (∀ p ∈ L, G p.1 = some (.tup (p.2.map V.int))) → L.length + 1 < 64 →
      (∀ L', (k ∈ L.map (·.2) → L' = L) → (k ∉ L.map (·.2) → L'.Perm ((b, k) :: L)) → Nx (upd G D (SetTO Y.prog Y.w D L'))) →
      wpAny (model Y.prog Y.w) Y.A (call (.builtin "set.add") [.ref D, .ref b]) (fun _ t' => ∃ G', Inv Y pn τ G' t' ∧ Nx G') Er t := by
    intro L hD hL few nx
    have R0 : SetT0 Y.prog Y.w t.heap D L := (I.hok D _ hD).1
    obtain ⟨es, ep, tb, R⟩ := R0.full fun p hp => I.isT (SqT.of (hL p hp))
    have ty : t.TypeIs (.ref D) "set" := by
      obtain ⟨o, ho, ex, _⟩ := R.ob
      exact ⟨o, ho, ex.1⟩
    refine wpAny_call_entry F.slot_set_add ty F.entry_set_add ?_ (F.args_set_add_2 _ _)
    unfold Builtin.«set.add» Builtin.Frozenset.oneOther
    simp only [List.isEmpty_nil, bind_assoc]
    unfold Builtin.Frozenset.addrOf setAdd
    refine wpAny_bind (wpAny_pure ?_); try dsimp only
    refine wpAny_bind (wpAny_pure ?_); try dsimp only
    refine wpAny_bind (wpAny_holding ?_)
    refine wpAny_bind (wpAny_pyHash_tuple hu hx ?_)
    refine add_at (s := { t with toks := t.toks + (k.length + 1) }) R hx hu few fun done h' L' es' ep' tb' sb R' c1 c2 => ?_
    show wpAny _ _ (ret Value.none) _ _ _
    refine wpAny_pure ⟨_, rfl, ?_⟩
    have there : ∃ o, h'.get? D = some o := by
      obtain ⟨o, ho, _⟩ := R'.ob
      exact ⟨o, ho⟩
    exact ⟨_, I.write (e := D) (t' := t.toks + (k.length + 1)) (by rw [hD]; trivial) (Or.inl rfl) (fun b o hb ho => (sb.2 b hb).trans ho) there (setTO_new R'.t0), nx L' c1 c2⟩
  rcases h with ⟨hD, nx⟩ | ⟨c, hc, hD, nx⟩
  · refine key [] hD (fun p hp => by cases hp) (by decide) fun L' _ c2 => ?_
    have e : L' = [(b, k)] := List.perm_singleton.mp (c2 (by simp))
    rw [e]
    exact nx
  · refine key [(c, k)] hD (fun p hp => by rw [List.mem_singleton.mp hp]; exact hc) (by simp) fun L' c1 _ => ?_
    rw [c1 (by simp)]
    exact nx
theorem new_tup {P : Program} (w : World) (G : Hp) (h : Heap) : ObjOk P w G (h.push (newSetO w)) h.objs.size (SetTO P w h.objs.size []) := setTO_new (setTR_fresh (Heap.get?_push_size _ rfl)).t0
section
variable {X : Cx} {elt tg iter : Expr} {scope : Scope} {own : List (Str × Nat)} {pos : Pos} {wi : TI} {g : TG} {te : TE}
theorem pe_scT (hu : X.A.in1.units < cLine) (hc : X.calm = true) (hN : X.N.Nodup) (hi : PI X tg iter wi) (ok : BlkOk X.N X.env.scope scope own)
    (hg : ∀ (sk : Shared) (Hk : Hp) (C : Addr) (cl : List (Str × Addr)) (fp : List Addr), PG (X.blk sk Hk scope (compEnvC scope cl C X.env) fp) tg g)
    (ht : ∀ (sk : Shared) (Hk : Hp) (C : Addr) (cl : List (Str × Addr)) (fp : List Addr), PTs (X.blk sk Hk scope (compEnvC scope cl C X.env) fp) [] tYes)
    (he : ∀ (sk : Shared) (Hk : Hp) (C : Addr) (cl : List (Str × Addr)) (fp : List Addr), PE (X.blk sk Hk scope (compEnvC scope cl C X.env) fp) elt te) (hs : ∀ x, foldedSetIterable iter X.env x = pure x := by intro _; rfl) :
    PE X (.SetComp elt [⟨tg, iter, [], 0⟩] scope pos) (tSC (fun p => SetTO X.prog X.w p []) (arT X.prog X.w) wi g te (own.map (·.2))) :=
  pe_scG hc (new_tup X.w) (fun D sk Hk C cl fp => add_tup (X.blk sk Hk scope (compEnvC scope cl C X.env) fp) hu D) hN hi ok hg he hs
end
/-! the walks, over a tuple -/
section
variable {P : Program} {w : World} {K : PySem.W.Frag} {a D : Addr} {xs : List V} {g : TG} {te : TE} {vs : List Nat} {σ : L2.St} {H1 : Hp} {Qd : Hp → Prop}
/-- every member gives the same number -/
theorem sc_int (c : Int) (Jv : Hp → Prop) (h0 : Jv (upd H1 D (SetO w D (fun _ => false) 0))) (hl : ∀ G, Jv G → SqT K G a xs) (hJ : ∀ G o, Jv G → Jv (upd G D o)) (hne : xs ≠ [])
    (hs : ∀ (i : Nat) x G (Fin : V → Hp → Prop), xs[i]? = some x → Jv G → (∃ S n, G D = some (SetO w D S n)) → (∀ G', Jv G' → G' D = G D → Fin (.int c) G') → g x (wipe σ vs) G fun τ G2 => wipe τ vs = wipe σ vs ∧ te τ G2 Fin)
    (hd : ∀ G S, Jv G → G D = some (SetO w D S 1) → Qd G) : ScW (arI w D) (Itt K a) g te vs σ (upd H1 D (SetO w D (fun _ => false) 0)) Qd := by
  refine ⟨fun i m G => m = xs.length - i ∧ i ≤ xs.length ∧ Jv G ∧ ∃ S, G D = some (SetO w D S (if i = 0 then 0 else 1)) ∧ ∀ k, S k = true ↔ i ≠ 0 ∧ k = c, ⟨xs.length, by simp, Nat.zero_le _, h0, _, upd_same, fun k => by simp⟩, ?_⟩
  rintro i m G ⟨rfl, hi, j, S, hD, hS⟩
  have q := hl G j
  by_cases lt : i < xs.length
  · refine Or.inr ⟨⟨xs, xs[i], q, by simp [lt]⟩, fun G' => Jv G' ∧ ∃ S, G' D = some (SetO w D S 1) ∧ ∀ k, S k = true ↔ k = c, fun G' p => ⟨xs.length - (i + 1), by omega, rfl, lt, p.1, ?_⟩, fun x G' y => ?_⟩
    · obtain ⟨S', e1, e2⟩ := p.2
      exact ⟨S', by rw [if_neg (by omega)]; exact e1, fun k => by rw [e2 k]; exact ⟨fun z => ⟨by omega, z⟩, fun z => z.2⟩⟩
    · obtain ⟨e, y⟩ := y
      subst e
      refine hs i x _ _ (y xs q) j ⟨_, _, hD⟩ fun G'' j' eD => ?_
      refine ⟨c, S, _, rfl, eD.trans hD, ?_, hJ _ _ j', (fun k => S k || decide (k = c)), ?_, ?_⟩
      · unfold scanBound; split <;> omega
      · rw [upd_same]
        by_cases z : i = 0
        · have e1 : ¬ S c = true := fun h => ((hS c).1 h).1 z
          rw [if_neg e1, if_pos z]
        · have e1 : S c = true := (hS c).2 ⟨z, rfl⟩
          rw [if_pos e1, if_neg z]
      · intro k
        rw [Bool.or_eq_true, decide_eq_true_eq, hS k]
        constructor
        · intro h
          cases h with
          | inl h => exact h.2
          | inr h => exact h
        · exact fun h => Or.inr h
  · have e : i = xs.length := by omega
    subst e
    have nz : xs.length ≠ 0 := fun z => hne (List.eq_nil_of_length_eq_zero z)
    rw [if_neg nz] at hD
    exact Or.inl ⟨⟨xs, q, Nat.le_refl _⟩, hd G S j hD⟩
/-- every member gives the same tuple of ints -/
theorem sc_tup (k : List Int) (Jv : Hp → Prop) (h0 : Jv (upd H1 D (SetTO P w D []))) (hl : ∀ G, Jv G → SqT K G a xs) (hJ : ∀ G L L', Jv G → G D = some (SetTO P w D L) → Jv (upd G D (SetTO P w D L'))) (hne : xs ≠ [])
    (hs : ∀ (i : Nat) x G (Fin : V → Hp → Prop), xs[i]? = some x → Jv G → (∃ L, G D = some (SetTO P w D L)) → (∀ G' b, Jv G' → G' D = G D → TupS G G' → G' b = some (.tup (k.map V.int)) → Fin (.ref b) G') → g x (wipe σ vs) G fun τ G2 => wipe τ vs = wipe σ vs ∧ te τ G2 Fin)
    (hd : ∀ G p, Jv G → G D = some (SetTO P w D [p]) → Qd G) : ScW (arT P w D) (Itt K a) g te vs σ (upd H1 D (SetTO P w D [])) Qd := by
  refine ⟨fun i m G => m = xs.length - i ∧ i ≤ xs.length ∧ Jv G ∧ ((i = 0 ∧ G D = some (SetTO P w D [])) ∨ (i ≠ 0 ∧ ∃ c, G c = some (.tup (k.map V.int)) ∧ G D = some (SetTO P w D [(c, k)]))), ⟨xs.length, by simp, Nat.zero_le _, h0, Or.inl ⟨rfl, upd_same⟩⟩, ?_⟩
  rintro i m G ⟨rfl, hi, j, hD⟩
  have q := hl G j
  have nt : ∀ {L zs}, SetTO P w D L ≠ .tup zs := fun {L zs} z => by
    unfold SetTO at z
    cases z
  by_cases lt : i < xs.length
  · refine Or.inr ⟨⟨xs, xs[i], q, by simp [lt]⟩, fun G' => Jv G' ∧ ∃ c, G' c = some (.tup (k.map V.int)) ∧ G' D = some (SetTO P w D [(c, k)]), fun G' p => ⟨xs.length - (i + 1), by omega, rfl, lt, p.1, Or.inr ⟨by omega, p.2⟩⟩, fun x G' y => ?_⟩
    obtain ⟨e, y⟩ := y
    subst e
    refine hs i x _ _ (y xs q) j ?_ fun G'' b j' eD ts hb => ⟨b, k, rfl, hb, ?_⟩
    · rcases hD with ⟨_, z⟩ | ⟨_, c, _, z⟩ <;> exact ⟨_, z⟩
    · rcases hD with ⟨_, z⟩ | ⟨_, c, hc, z⟩
      · exact Or.inl ⟨eD.trans z, hJ _ _ _ j' (eD.trans z), b, (upd_ne (ne_of hb (eD.trans z) fun e => nt e.symm)).trans hb, upd_same⟩
      · have hc2 := ts c _ hc
        exact Or.inr ⟨c, hc2, eD.trans z, hJ _ _ _ j' (eD.trans z), c, (upd_ne (ne_of hc2 (eD.trans z) fun e => nt e.symm)).trans hc2, upd_same⟩
  · have e : i = xs.length := by omega
    subst e
    have nz : xs.length ≠ 0 := fun z => hne (List.eq_nil_of_length_eq_zero z)
    rcases hD with ⟨z, _⟩ | ⟨_, c, _, z⟩
    · exact absurd z nz
    · exact Or.inl ⟨⟨xs, q, Nat.le_refl _⟩, hd G _ j z⟩
end
/-! len(set) -/
def rLenSO (P : Program) (w : World) : List V → Hp → VK → Prop := fun vs H Q => ∃ D n, vs = [.ref D] ∧ ((∃ S, H D = some (SetO w D S n)) ∨ ∃ L, L.length = n ∧ H D = some (SetTO P w D L)) ∧ Q (.int n) H
theorem cr_lenSO {X : Cx} : CallR X (.builtin "len") (rLenSO X.prog X.w) := by
  intro pins s σ H vs us Q I r h
  obtain ⟨D, n, rfl, hD, q⟩ := h
  rw [Vals.ref1 r]
  have key : ∀ (o : Obj) (es : Array (Int × Value)) (ep : Nat) (t : SetTable), s.heap.get? D = some o → o.ExactSet → o.data = .set es ep t → t.fits es.size = true → es.size = n → es.size < scanBound → wpAny (model X.prog X.w) X.A (call (.builtin "len") [.ref D]) (EP X pins σ Q) X.xe s := by
    intro o es ep t ho hex hd hf hn hb
    refine call_len_set ho hex hd hf (by unfold scanBound at hb; omega) ⟨.int n, H, I.tok _, ⟨_, by rw [hn]⟩, q⟩
  rcases hD with ⟨S, hD⟩ | ⟨L, hL, hD⟩
  · obtain ⟨o, es, ep, t, ho, hex, hd, _, _, _, hb, hf, hn, _⟩ := setO_get I hD
    exact key o es ep t ho hex hd hf hn hb
  · have R0 : SetT0 X.prog X.w s.heap D L := (I.hok D _ hD).1
    obtain ⟨es, ep, t, ⟨o, ho, hex, hd⟩, rows, tab, _, pl, _, room, few⟩ := R0.ex
    have sz : es.size = L.length := by
      rw [← Array.length_toList, rows]
      unfold rowsOf
      rw [List.length_map]
    refine key o es ep t ho hex hd ?_ (sz.trans hL) (by rw [sz]; unfold scanBound; omega)
    have z := tab.sz
    rw [List.length_map] at z
    unfold SetTable.fits SetTable.fill
    rw [tab.dm, sz, z, Bool.and_eq_true, beq_iff_eq, decide_eq_true_eq]
    refine ⟨rfl, ?_⟩
    show L.length + 0 ≤ t.mask
    omega
/-! set(thing), thing a tuple of tuples of ints -/
theorem len_of_sub {α : Type} [DecidableEq α] : ∀ (l m : List α), l.Nodup → (∀ x ∈ l, x ∈ m) → l.length ≤ m.length
  | [], m, _, _ => Nat.zero_le _
  | x :: l, m, nd, h => by
    have n := List.nodup_cons.mp nd
    have q := len_of_sub l (m.erase x) n.2 fun y hy => (List.mem_erase_of_ne fun e => n.1 (by rw [← e]; exact hy)).mpr (h y (List.mem_cons_of_mem _ hy))
    have e := List.length_erase_of_mem (h x List.mem_cons_self)
    have p : 0 < m.length := List.length_pos_of_mem (h x List.mem_cons_self)
    rw [List.length_cons]
    omega
section
variable {P : Program} {w : World} {A : Around} {E : Value → Shared → Prop} {s : Shared}
theorem set_of_tuple {l : Addr} {items : Array Value} (ks : List (Addr × List Int)) {Q : Value → Shared → Prop} (hh : A.handled = none) (hl : s.heap.IsTuple l items) (hit : items.toList = ks.map fun p => Value.ref p.1)
    (hk : ∀ p ∈ ks, IsT P w s.heap p.2 p.1) (few : ks.length < 64) (hu : A.units + 3 < cLine)
    (h : ∀ (h' : Heap) (tk : Nat) L es ep t, SetTR P w h' s.heap.objs.size L es ep t → Got ks ks.length L → (∀ b o, s.heap.get? b = some o → h'.get? b = some o) → Q (.ref s.heap.objs.size) { s with heap := h', toks := tk }) :
    wpAny (model P w) A (call (.type "set") [.ref l]) Q E s := by
  have isz : items.size = ks.length := by
    have q := congrArg List.length hit
    rwa [Array.length_toList, List.length_map] at q
  have none_of : ∀ b, s.heap.objs.size ≤ b → s.heap.get? b = none := by
    intro b hb
    cases q : s.heap.get? b with
    | none => rfl
    | some o => exact absurd (Nat.lt_of_lt_of_le (Heap.lt_size q) hb) (Nat.lt_irrefl _)
  have lt := (show l < s.heap.objs.size from by
    obtain ⟨o, ho, _⟩ := id hl
    exact Heap.lt_size ho)
  obtain ⟨c, tl, hmro⟩ := PySem.F.called_set.mro
  obtain ⟨hmade, hsub, h1, h2, hct⟩ := And.intro PySem.F.called_set.made (And.intro PySem.F.called_set.sub (And.intro PySem.F.called_set.notType (And.intro PySem.F.called_set.canCreate (PySem.F.typeCall_set_1 (.ref l)))))
  refine wpAny_call (codeAny_of_tree ?_)
  show wpAny _ _ (callAny (.type "set") _) _ _ _
  refine wpAny_pure ⟨Code.quiet_builtin _ (by decide +kernel), codeAny_builtin PySem.F.entry_type_call ?_⟩
  rw [Around.under_plain (weight_type_call_type "set" [.ref l] []) rfl]
  repeat (any_goals (first | assumption | wp_step))
  generalize hO : newSetO w = O
  refine codeAny_mono (code_set_led1 (.ref l) (E := E) (Q₁ := fun obj t => obj = .ref s.heap.objs.size ∧ t = { s with heap := s.heap.push O }) ⟨rfl, by rw [← hO]⟩) fun r t hr => ?_
  have hS : (s.heap.push O).get? s.heap.objs.size = some (newSetO w) := by rw [← hO]; exact Heap.get?_push_size _ rfl
  have hT : Shared.TypeIs { s with heap := s.heap.push O } (.ref s.heap.objs.size) "set" := ⟨_, hS, rfl⟩
  have hli := PySem.F.called_set.init.lookup
  have hbi := PySem.F.called_set.init.bind (.ref s.heap.objs.size)
  have sz : (s.heap.push O).objs.size = s.heap.objs.size + 1 := Heap.size_push ..
  cases r with
  | error e => exact hr
  | ok fl =>
    cases fl with
    | ret obj =>
      obtain ⟨rfl, rfl⟩ := hr
      repeat (any_goals (first | assumption | wp_step))
      refine codeAny_mono (codeAny_call_builtin (R := wants (fun r t => r = .none ∧ ∃ h' tk L es ep tb, t = { s with heap := h', toks := tk } ∧ SetTR P w h' s.heap.objs.size L es ep tb ∧ Got ks ks.length L ∧
          (∀ b o, s.heap.get? b = some o → h'.get? b = some o)) E) PySem.F.called_set.init.plain PySem.F.entry_set_init (check_set_init_1 hT ?_)) fun r2 t2 hr2 => ?_
      · have hl1 : (s.heap.push O).IsTuple l items := hl.push _
        obtain ⟨ol, hol, hcl, nl, hdl⟩ := id hl1
        obtain ⟨ocls, odict, odata, oslots⟩ := ol
        simp only at hcl hdl
        subst hcl; subst hdl
        have hsls := PySem.F.sub_tuple_set
        have hslf := PySem.F.sub_tuple_frozenset
        have hne : (Value.type "tuple" == Value.type "dict") = false := by decide
        unfold Builtin.«set.__init__» noKeywords Builtin.Frozenset.updateFrom
        generalize hPI : pyIter = PI
        wp_walk
        subst hPI
        refine wpAny_pyIter_tuple hl1 (wpAny_bind (wpAny_runValue ?_))
        have hh3 : A.in1.in1.in1.handled = none := by simp [hh]
        have hne2 : l ≠ (s.heap.push O).objs.size := by rw [sz]; exact Nat.ne_of_lt (Nat.lt_succ_of_lt lt)
        have nin : s.heap.objs.size ∉ [(s.heap.push O).objs.size, l] := by
          rw [sz]
          intro z
          rcases List.mem_cons.mp z with z | z
          · exact absurd z (Nat.ne_of_lt (Nat.lt_succ_self _))
          · exact absurd (List.mem_singleton.mp z) (Nat.ne_of_gt lt)
        have hval : ∀ (i : Nat) (v : Value), items[i]? = some v → ∃ p, ks[i]? = some p ∧ v = .ref p.1 := by
          intro i v hv
          have q : items.toList[i]? = some v := by rw [Array.getElem?_toList]; exact hv
          rw [hit, List.getElem?_map] at q
          cases hq : ks[i]? with
          | none => rw [hq] at q; cases q
          | some p => rw [hq] at q; exact ⟨p, rfl, (Option.some.inj q).symm⟩
        refine set_update_tups ((Walks.tuple hh3 _ l hne2 items).toS) s.heap.objs.size nin ks isz few hval s.heap hk (none_of _ (Nat.le_refl _)) (fun b hb => none_of b (by
            rw [List.mem_singleton.mp hb, sz]
            exact Nat.le_succ _)) hu (items.size - 0) 0 _ (by omega) (Nat.zero_le _) ⟨⟨_, Heap.get?_push_size _ rfl, rfl, rfl⟩, hl1.push _⟩ (fun b o e => Heap.get?_push_of_some _ (Heap.get?_push_of_some _ e)) ?start ?stop
        case start => exact ⟨[], #[], 0, _, setTR_fresh (Heap.get?_push_of_some _ hS), Got.zero ks⟩
        case stop =>
          intro t L es ep tb hm hS' g' hkp
          obtain ⟨th, tg, td, ttk, tos⟩ := t
          obtain ⟨rfl, rfl, rfl⟩ : tg = s.gens ∧ td = s.drawn ∧ tos = s.os := ⟨hm.gens, hm.drawn, hm.os⟩
          show wpAny _ _ _ _ _ _
          refine wpAny_pure ?_
          show wpAny _ _ (ret Value.none) _ _ _
          rw [isz] at g'
          exact wpAny_pure ⟨rfl, th, ttk, L, es, ep, tb, rfl, hS', g', hkp⟩
      · cases r2 with
        | error e => exact hr2
        | ok fl2 =>
          cases fl2 with
          | ret r =>
            obtain ⟨rfl, h', tk, L, es, ep, tb, rfl, hS', g', hk'⟩ := hr2
            repeat (any_goals (first | assumption | wp_step))
            exact h _ _ _ _ _ _ hS' g' hk'
          | _ => exact hr2.elim
    | _ => exact hr.elim
end
/-- set(thing): a set of as many as are unlike -/
def rSetT (K : PySem.W.Frag) (P : Program) (w : World) : List V → Hp → VK → Prop := fun xs H Q => ∃ (l : Addr) (ks : List (Addr × List Int)), xs = [V.ref l] ∧ SqT K H l (ks.map fun p => V.ref p.1) ∧ (∀ p ∈ ks, H p.1 = some (.tup (p.2.map V.int))) ∧ ks.length < 64 ∧ (ks.map (·.2)).Nodup ∧
  ∀ a L, H a = none → L.length = ks.length → Q (.ref a) (upd H a (SetTO P w a L))
theorem cr_setT {X : Cx} (hc : X.calm = true) (hu : X.A.units + 3 < cLine) : CallR X (.type "set") (rSetT X.K X.prog X.w) := by
  intro pins s σ H xs us Q I r h
  obtain ⟨l, ks, rfl, hl, hk, hf, nd, q⟩ := h
  rw [Vals.ref1 r]
  obtain ⟨its, rv, pl, hz⟩ := I.tuple hl
  refine set_of_tuple (P := X.prog) (w := X.w) ks (I.ok.hd hc) pl (by simpa using refs_of_vals rv) (fun p hp => I.isT (SqT.of (hk p hp))) hf hu fun h' tk L es ep t R g k => ?_
  refine ⟨.ref s.heap.objs.size, upd H s.heap.objs.size (SetTO X.prog X.w s.heap.objs.size L), I.laid (t' := tk) k (Nat.le_refl _) (setTO_new R.t0), rfl, q _ L (I.hok.fresh (Nat.le_refl _)) ?_⟩
  refine Nat.le_antisymm g.len ?_
  have z := len_of_sub (ks.map (·.2)) (L.map (·.2)) nd fun x hx => by
    obtain ⟨p, hp, rfl⟩ := List.mem_map.mp hx
    exact g.all p (by rw [List.take_length]; exact hp)
  simpa using z
end K22
end
section
/-! ### data that stands in tuples -/
namespace K22
open PySem PySem.Spec PyProof.Rows L2
/-! nested tuples -/
def TAt {α : Type} (R : Hp → Addr → α → Prop) (H : Hp) (a : Addr) (l : List α) : Prop :=
  ∃ as : List Addr, H a = some (.tup (as.map V.ref)) ∧ as.length = l.length ∧ ∀ (i : Nat) x, l[i]? = some x → ∃ b, as[i]? = some b ∧ R H b x
def RowAt (H : Hp) (a : Addr) (r : List Int) : Prop := H a = some (.tup (r.map V.int))
abbrev PlaneAt := TAt RowAt
abbrev PlanesAt := TAt PlaneAt
theorem TAt.mono {α : Type} {R : Hp → Addr → α → Prop} {H H' : Hp} {a : Addr} {l : List α} (h : TAt R H a l) (ts : TupS H H') (hr : ∀ b x, R H b x → R H' b x) : TAt R H' a l := by
  obtain ⟨as, h1, h2, h3⟩ := h
  refine ⟨as, ts _ _ h1, h2, fun i x e => ?_⟩
  obtain ⟨b, e1, e2⟩ := h3 i x e
  exact ⟨b, e1, hr b x e2⟩
theorem RowAt.mono {H H' : Hp} {a : Addr} {r : List Int} (h : RowAt H a r) (ts : TupS H H') : RowAt H' a r := ts _ _ h
theorem PlaneAt.mono {H H' : Hp} {a : Addr} {p : List (List Int)} (h : PlaneAt H a p) (ts : TupS H H') : PlaneAt H' a p := TAt.mono h ts fun _ _ z => RowAt.mono z ts
theorem PlanesAt.mono {H H' : Hp} {a : Addr} {p : List (List (List Int))} (h : PlanesAt H a p) (ts : TupS H H') : PlanesAt H' a p := TAt.mono h ts fun _ _ z => PlaneAt.mono z ts
/-- what a member of such a tuple is -/
theorem TAt.mem {α : Type} {R : Hp → Addr → α → Prop} {H : Hp} {l : List α} {as : List Addr} (hl : as.length = l.length) (h : ∀ (i : Nat) x, l[i]? = some x → ∃ b, as[i]? = some b ∧ R H b x) {b : Addr} (hb : b ∈ as) : ∃ x ∈ l, R H b x := by
  obtain ⟨i, hi⟩ := List.mem_iff_getElem?.mp hb
  have lt : i < l.length := by rw [← hl]; exact (List.getElem?_eq_some_iff.mp hi).1
  obtain ⟨b', e1, e2⟩ := h i l[i] (by simp [lt])
  rw [hi] at e1
  cases e1
  exact ⟨_, List.getElem_mem lt, e2⟩
structure OkPl (np wd hg : Nat) (d : Int) (pl : List (List (List Int))) : Prop where
  n : pl.length = np
  hgt : ∀ p ∈ pl, p.length = hg
  wid : ∀ p ∈ pl, ∀ r ∈ p, r.length = wd
  rng : ∀ p ∈ pl, ∀ r ∈ p, ∀ z ∈ r, 0 ≤ z ∧ z ≤ d
  n1 : 1 ≤ np
  n2 : np ≤ 4
  w1 : 1 ≤ wd
  w2 : wd ≤ 48
  h1 : 1 ≤ hg
  h2 : hg ≤ 48
theorem mem_ref {as : List Addr} {i : Nat} {x : V} (h : (as.map V.ref)[i]? = some x) : ∃ b, b ∈ as ∧ x = V.ref b := by
  obtain ⟨n, h1, h2⟩ := List.mem_map.mp (List.mem_of_getElem? h)
  exact ⟨n, h1, h2.symm⟩
end K22
end
section
/-! ### whole numbers, names, windows -/
namespace K22
open PySem PySem.Spec PyProof.Rows L2
section
variable {P : Program} {w : World} {K : PySem.W.Frag} {mg : Str → Option Value} {base : Heap}
/-! is_whole -/
def spWhole : Sp := fun vs H Q _ => (∃ i, vs = [.int i] ∧ Q (.bl true) H) ∨ ∃ z, vs = [.str z] ∧ Q (.bl false) H
theorem sc_is_whole : FnScope ["thing"] ["thing"] (defScope s_is_whole) := ⟨rfl, rfl, rfl, by decide +kernel, rfl, by decide +kernel, by decide +kernel⟩
theorem ok_is_whole (T : Fx K mg w) : Cal P w K mg base 1 "is_whole" spWhole [] := by
  refine cal_of T.d_is_whole sc_is_whole (fun _ _ _ _ _ _ us hl => match us, hl with | [_], _ => rfl) (fun vs H Q E h => ?_) (fun cdv A outer s H vs Q E hr h => ?_)
  · rcases h with ⟨i, rfl, _⟩ | ⟨z, rfl, _⟩ <;> rfl
  · refine ⟨_, (pss_one (ps_ret (pe_and (pe_callB (id := "isinstance") (cr_isiK (K := K) rfl) (by rfl) T.f_isinstance (by decide +kernel) (pa_cons (pv 0) (pa_cons (pe_bltn (v := .ty "int") (by rfl) T.f_int (by decide +kernel) rfl) pa_nil))) (pe_one (pe_not (pe_callB (id := "isinstance") (cr_isiK (K := K) rfl) (by rfl) T.f_isinstance (by decide +kernel) (pa_cons (pv 0) (pa_cons (pe_bltn (v := .ty "bool") (by rfl) T.f_bool (by decide +kernel) rfl) pa_nil)))))))), ?_⟩
    rcases h with ⟨i, rfl, q⟩ | ⟨z, rfl, q⟩
    · refine ⟨_, rfl, .int i, .ty "int", .type "int", .type "int", true, rfl, .ty _, .base (.int i), kit_ty (by decide +kernel), true, rfl, ?_⟩
      refine iteT ?_
      refine ⟨_, rfl, .int i, .ty "bool", .type "int", .type "bool", false, rfl, .ty _, .base (.int i), kit_ty (by decide +kernel), _, rfl, ?_⟩
      exact q
    · refine ⟨_, rfl, .str z, .ty "int", .type "str", .type "int", false, rfl, .ty _, .base (.str z), kit_ty (by decide +kernel), false, rfl, ?_⟩
      exact iteF q
/-! is_from -/
def spFrom : Sp := fun vs H Q _ => (∃ i lo hi, vs = [.int i, .int lo, .int hi] ∧ lo ≤ i ∧ i ≤ hi ∧ Q (.bl true) H) ∨ ∃ z lo hi, vs = [.str z, .int lo, .int hi] ∧ Q (.bl false) H
theorem sc_is_from : FnScope ["thing", "least", "most"] ["thing", "least", "most"] (defScope s_is_from) := ⟨rfl, rfl, rfl, by decide +kernel, rfl, by decide +kernel, by decide +kernel⟩
theorem ok_is_from (T : Fx K mg w) : Cal P w K mg base 2 "is_from" spFrom [] := by
  have c_is_whole : Cal P w K mg base 1 "is_whole" spWhole [] := ok_is_whole T
  refine cal_of T.d_is_from sc_is_from (fun _ _ _ _ _ _ us hl => match us, hl with | [_, _, _], _ => rfl) (fun vs H Q E h => ?_) (fun cdv A outer s H vs Q E hr h => ?_)
  · rcases h with ⟨i, lo, hi, rfl, _⟩ | ⟨z, lo, hi, rfl, _⟩ <;> rfl
  · refine ⟨_, (pss_one (ps_ret (pe_and (pe_c c_is_whole hr (by omega) rfl (pa_cons (pv 0) pa_nil)) (pe_one (pe_chain op_le op_le (pv 1) (pv 0) (pv 2)))))), ?_⟩
    rcases h with ⟨i, lo, hi, rfl, h1, h2, q⟩ | ⟨z, lo, hi, rfl, q⟩
    · refine ⟨_, rfl, Or.inl ⟨i, rfl, true, rfl, iteT ?_⟩⟩
      exact ⟨_, rfl, _, rfl, lo, i, rfl, rfl, _, rfl, if_true h1 ⟨_, rfl, i, hi, rfl, rfl, q_true h2 q⟩⟩
    · exact ⟨_, rfl, Or.inr ⟨z, rfl, false, rfl, iteF q⟩⟩
/-! is_name -/
def OkName (z : Str) : Prop := 1 ≤ z.length ∧ z.length ≤ 8 ∧ ∀ c ∈ z.cps.toList, c ∈ ("abcdefghijklmnopqrstuvwxyz" : Str).cps.toList
def spName : Sp := fun vs H Q _ => ∃ z, vs = [.str z] ∧ OkName z ∧ ∀ H', Same H H' → Q (.bl true) H'
theorem sc_is_name : FnScope ["thing", "sign"] ["thing"] (defScope s_is_name) := ⟨rfl, rfl, rfl, by decide +kernel, rfl, by decide +kernel, by decide +kernel⟩
theorem ok_is_name (T : Fx K mg w) : Cal P w K mg base 1 "is_name" spName [] := by
  refine cal_of T.d_is_name sc_is_name (fun _ _ _ _ _ _ us hl => match us, hl with | [_], _ => rfl) (fun vs H Q E h => ?_) (fun cdv A outer s H vs Q E hr h => ?_)
  · obtain ⟨z, rfl, _⟩ := h
    rfl
  · refine ⟨_, (pss_cons (ps_if (PW.pt (pw_or (pt_not (pt_val (pe_callB (id := "isinstance") (cr_isiK (K := K) rfl) (by rfl) T.f_isinstance (by decide +kernel) (pa_cons (pv 0) (pa_cons (pe_bltn (v := .ty "str") (by rfl) T.f_str (by decide +kernel) rfl) pa_nil))))) (pw_or1 (pt_not (pt_chain op_le op_le pe_int (pe_callB (id := "len") (cr_lenK (K := K) rfl) (by rfl) T.f_len (by decide +kernel) (pa_cons (pv 0) pa_nil)) (C8.pe_gc rfl T.g_LONGEST_NAME)))))) (pss_one (ps_ret pe_bl)) pss_nil)
      (pss_one (ps_ret (pe_callB (id := "all") (cr_allK (K := K) rfl rfl) (by rfl) T.f_all (by decide +kernel) (pa_cons (pe_lc (own := [("sign", 1)]) rfl sc_is_name.nd (pi_str (pv 0)) (blkOk_by (N := ["thing", "sign"]) (sc := defScope s_is_name) (by decide +kernel)) (fun _ _ _ _ _ => (pg_name (i := 1) sc_is_name.nd rfl (by first | exact Or.inl rfl | exact Or.inr rfl))) (fun _ _ _ _ _ => pts_nil) (fun _ _ _ _ _ => (pe_cmpR op_in_sign (pv 1) (C8.pe_gc rfl T.g_LETTERS) (by rfl)))) pa_nil))))), ?_⟩
    obtain ⟨z, rfl, ⟨n1, n2, n3⟩, q⟩ := h
    have hz : z.length ≤ sizeLine := line_le (by omega)
    refine ⟨_, rfl, .str z, .ty "str", .type "str", .type "str", true, rfl, .ty _, .base (.str z), kit_ty (by decide +kernel), true, rfl, iteF ?_⟩
    refine ⟨_, rfl, .str z, z.length, rfl, ⟨hz, rfl⟩, 1, _, rfl, rfl, _, rfl, if_true (show (1 : Int) ≤ (z.length : Int) by omega) ⟨(z.length : Int), 8, rfl, rfl, _, rfl, ?_⟩⟩
    refine if_nottrue (show (z.length : Int) ≤ 8 by omega) ?_
    refine ⟨_, rfl, z, rfl, fun D hD => ?_⟩
    refine lc_strG (z := z) (fun H' => Same H H') (fun _ y _ => y = .bl true) (Same.new hD) (fun H' acc acc' j e => ?_) (fun _ _ _ _ _ h => h) (by have := n2; unfold Str.length at this; omega) (fun i c H' acc Fin hc j e k => ?_) fun H' acc j e _ ho => ?_
    · exact fun b u eb => by rw [upd_ne (ne_of_none eb hD)]; exact j b u eb
    · refine ⟨rfl, _, rfl, c, "abcdefghijklmnopqrstuvwxyz", rfl, rfl, ?_⟩
      have hm : c ∈ ("abcdefghijklmnopqrstuvwxyz" : Str).cps.toList := n3 c (by
        rw [Array.mem_toList_iff]
        exact Array.mem_of_getElem? hc)
      rw [decide_eq_true hm]
      exact k _ _ j e (TupS.refl _) rfl
    · exact all_ok e ho (q H' j)
/-! are_wholes -/
def spWholes (K : PySem.W.Frag) : Sp := fun vs H Q _ => ∃ a lo hi, ∃ ns : List Int, vs = [.ref a, .int lo, .int hi] ∧ H a = some (.tup (ns.map V.int)) ∧ ns.length ≤ 100000 ∧ (∀ n ∈ ns, lo ≤ n ∧ n ≤ hi) ∧ ∀ H', Same H H' → Q (.bl true) H'
theorem sc_are_wholes : FnScope ["thing", "least", "most", "one"] ["thing", "least", "most"] (defScope s_are_wholes) := ⟨rfl, rfl, rfl, by decide +kernel, rfl, by decide +kernel, by decide +kernel⟩
theorem ok_are_wholes (T : Fx K mg w) : Cal P w K mg base 3 "are_wholes" (spWholes K) [] := by
  have c_is_from : Cal P w K mg base 2 "is_from" spFrom [] := ok_is_from T
  refine cal_of T.d_are_wholes sc_are_wholes (fun _ _ _ _ _ _ us hl => match us, hl with | [_, _, _], _ => rfl) (fun vs H Q E h => ?_) (fun cdv A outer s H vs Q E hr h => ?_)
  · obtain ⟨a, lo, hi, ns, rfl, _⟩ := h
    rfl
  · refine ⟨_, (pss_one (ps_ret (pe_and (pe_callB (id := "isinstance") (cr_isiK (K := K) rfl) (by rfl) T.f_isinstance (by decide +kernel) (pa_cons (pv 0) (pa_cons (pe_bltn (v := .ty "tuple") (by rfl) T.f_tuple (by decide +kernel) rfl) pa_nil))) (pe_one (pe_callB (id := "all") (cr_allK (K := K) rfl rfl) (by rfl) T.f_all (by decide +kernel) (pa_cons (pe_lc (own := [("one", 3)]) rfl sc_are_wholes.nd (pi_tupK (K := K) rfl (pv 0)) (blkOk_by (N := ["thing", "least", "most", "one"]) (sc := defScope s_are_wholes) (by decide +kernel)) (fun _ _ _ _ _ => (pg_name (i := 3) sc_are_wholes.nd rfl (by first | exact Or.inl rfl | exact Or.inr rfl))) (fun _ _ _ _ _ => pts_nil) (fun _ _ _ _ _ => (pe_c c_is_from hr (by omega) rfl (pa_cons (pv 3) (pa_cons (pv 1) (pa_cons (pv 2) pa_nil)))))) pa_nil)))))), ?_⟩
    obtain ⟨a, lo, hi, ns, rfl, ha, hn, hb, q⟩ := h
    refine ⟨_, rfl, .ref a, .ty "tuple", .type "tuple", .type "tuple", true, rfl, .ty _, .base (.tup ha), kit_ty (by decide +kernel), true, rfl, iteT ?_⟩
    refine ⟨_, rfl, a, rfl, ⟨_, SqT.of ha⟩, fun D hD => ?_⟩
    refine lc_tupG (xs := ns.map V.int) (fun H' => Same H H') (fun _ y _ => y = .bl true) (Same.new hD) (fun H' j => j.sqt (SqT.of ha)) (fun H' acc acc' j e => j.to' hD) (fun _ _ _ _ _ h => h) (by simpa using hn) (fun i x H' acc Fin hx j e k => ?_) fun H' acc j e _ ho => ?_
    · obtain ⟨n, hn', rfl⟩ : ∃ n, n ∈ ns ∧ x = V.int n := by
        obtain ⟨n, h1, h2⟩ := List.mem_map.mp (List.mem_of_getElem? hx)
        exact ⟨n, h1, h2.symm⟩
      refine ⟨rfl, _, rfl, _, rfl, _, rfl, Or.inl ⟨n, lo, hi, rfl, (hb n hn').1, (hb n hn').2, ?_⟩⟩
      exact k _ _ j e (TupS.refl _) rfl
    · exact all_ok e ho (q H' j)
end
end K22
end
section
/-! ### comprehensions with an invariant that knows the turn -/
namespace K22
open PySem PySem.Spec PyProof.Rows L2
abbrev TurnI (D : Addr) (Jv : Nat → Hp → Prop) (F : Nat → V → Hp → Prop) (i : Nat) (H : Hp) (acc : List V) (Fin : V → Hp → Prop) : Prop :=
  ∀ y H4, Jv (i + 1) H4 → H4 D = some (.lst acc) → TupS H H4 → F i y H4 → Fin y H4
section
variable {K : PySem.W.Frag} {a : Addr} {xs : List V} {J : It} {g : TG} {te : TE} {vs : List Nat} {σ : L2.St} {H1 : Hp} {D : Addr} {Qd : Hp → Prop} {lo : Int} {n : Nat}
theorem lc_anyI (el : Nat → V → Prop) (Jv : Nat → Hp → Prop) (F : Nat → V → Hp → Prop) (h0 : Jv 0 (upd H1 D (.lst [])))
    (hit : ∀ i G, i ≤ n → Jv i G → (i = n → J.stop i G) ∧ (i < n → J.go i G ∧ ∀ x G', J.yld i G x G' → G' = G ∧ el i x))
    (hJ : ∀ i G acc acc', Jv i G → G D = some (.lst acc) → Jv i (upd G D (.lst acc'))) (hF : ∀ i y G G', TupS G G' → F i y G → F i y G') (hn : n ≤ 100000)
    (hs : ∀ i x G acc (Fin : V → Hp → Prop), i < n → el i x → Jv i G → G D = some (.lst acc) → TurnI D Jv F i G acc Fin → g x (wipe σ vs) G fun σ2 G2 => wipe σ2 vs = wipe σ vs ∧ te σ2 G2 Fin)
    (hd : ∀ G acc, Jv n G → G D = some (.lst acc) → acc.length = n → (∀ (i : Nat) y, acc[i]? = some y → F i y G) → Qd G) : LcW J g te vs σ H1 D Qd := by
  refine ⟨fun i m G => m = n - i ∧ i ≤ n ∧ SoFar D (Jv i) F i G, ⟨n, by simp, Nat.zero_le _, h0, [], upd_same, rfl, fun k y e => by simp at e⟩, ?_⟩
  rintro i m G ⟨rfl, hi, j, acc, hD, hlen, ho⟩
  obtain ⟨st, go⟩ := hit i G hi j
  by_cases lt : i < n
  · obtain ⟨g1, g2⟩ := go lt
    refine Or.inr ⟨g1, fun G' => SoFar D (Jv (i + 1)) F (i + 1) G', fun G' p => ⟨n - (i + 1), by omega, rfl, lt, p⟩, fun x G' y => ?_⟩
    obtain ⟨rfl, ex⟩ := g2 x G' y
    refine hs i x G' acc (fun y G4 => ∃ acc, G4 D = some (.lst acc) ∧ acc.length < sizeLine ∧ SoFar D (Jv (i + 1)) F (i + 1) (upd G4 D (.lst (acc ++ [y])))) lt ex j hD fun y G4 j4 hD4 ts f => ?_
    exact ⟨acc, hD4, line_lt (by omega), sofar_next (hJ (i + 1)) hF j4 hD4 hlen (fun k y e => hF _ _ _ _ ts (ho k y e)) f⟩
  · have e : i = n := by omega
    subst e
    exact Or.inl ⟨st rfl, hd G acc j hD hlen ho⟩
theorem it_lst {i : Nat} {G : Hp} (h : SqL K G a xs) (hi : i ≤ xs.length) : (i = xs.length → (Itl K a).stop i G) ∧ (i < xs.length → (Itl K a).go i G ∧ ∀ x G', (Itl K a).yld i G x G' → G' = G ∧ xs[i]? = some x) :=
  ⟨fun e => ⟨xs, h, Nat.le_of_eq e.symm⟩, fun lt => ⟨⟨xs, xs[i], h, by simp [lt]⟩, fun x G' y => ⟨y.1, y.2 xs h⟩⟩⟩
theorem it_tup {i : Nat} {G : Hp} (h : SqT K G a xs) (hi : i ≤ xs.length) : (i = xs.length → (Itt K a).stop i G) ∧ (i < xs.length → (Itt K a).go i G ∧ ∀ x G', (Itt K a).yld i G x G' → G' = G ∧ xs[i]? = some x) :=
  ⟨fun e => ⟨xs, h, Nat.le_of_eq e.symm⟩, fun lt => ⟨⟨xs, xs[i], h, by simp [lt]⟩, fun x G' y => ⟨y.1, y.2 xs h⟩⟩⟩
theorem it_rng {i : Nat} {G : Hp} (hi : i ≤ n) : (i = n → (Itr lo n).stop i G) ∧ (i < n → (Itr lo n).go i G ∧ ∀ x G', (Itr lo n).yld i G x G' → G' = G ∧ x = V.int (lo + i)) :=
  ⟨fun e => Nat.le_of_eq e.symm, fun lt => ⟨lt, fun x G' y => y⟩⟩
end
end K22
end
section
/-! ### loops and filters -/
namespace K22
open PySem PySem.Spec PyProof.Rows L2
abbrev ForW (J : It) (g : TG) (tb : TS) (D : Ends) (σ : L2.St) (H1 : Hp) : Prop :=
  ∃ W : Nat → Nat → L2.St → Hp → Prop, (∃ m, W 0 m σ H1) ∧ ∀ i m σ H, W i m σ H →
    (J.stop i H ∧ D.nx σ H) ∨ (J.go i H ∧ ∃ N : L2.St → Hp → Prop, (∀ σ' H', N σ' H' → ∃ m', m' < m ∧ W (i + 1) m' σ' H') ∧ ∀ x H', J.yld i H x H' → g x σ H' fun σ2 H2 => tb { D with nx := N, ct := N, bk := D.nx } σ2 H2)
theorem for_any {J : It} {g : TG} {tb : TS} {E : Ends} {σ : L2.St} {H1 : Hp} {n : Nat} (el : Nat → V → Prop) (Jv : Nat → L2.St → Hp → Prop) (h0 : Jv 0 σ H1)
    (hit : ∀ i σ G, i ≤ n → Jv i σ G → (i = n → J.stop i G) ∧ (i < n → J.go i G ∧ ∀ x G', J.yld i G x G' → G' = G ∧ el i x))
    (hs : ∀ i x σ G (N : L2.St → Hp → Prop), i < n → el i x → Jv i σ G → (∀ σ' G', Jv (i + 1) σ' G' → N σ' G') → g x σ G fun σ2 G2 => tb { E with nx := N, ct := N, bk := E.nx } σ2 G2)
    (hd : ∀ σ G, Jv n σ G → E.nx σ G) : ForW J g tb E σ H1 := by
  refine ⟨fun i m σ G => m = n - i ∧ i ≤ n ∧ Jv i σ G, ⟨n, by simp, Nat.zero_le _, h0⟩, ?_⟩
  rintro i m σ G ⟨rfl, hi, j⟩
  obtain ⟨st, go⟩ := hit i σ G hi j
  by_cases lt : i < n
  · obtain ⟨g1, g2⟩ := go lt
    refine Or.inr ⟨g1, Jv (i + 1), fun σ' G' p => ⟨n - (i + 1), by omega, rfl, lt, p⟩, fun x G' y => ?_⟩
    obtain ⟨rfl, ex⟩ := g2 x G' y
    exact hs i x σ G' _ lt ex j fun _ _ z => z
  · have e : i = n := by omega
    subst e
    exact Or.inl ⟨st rfl, hd σ G j⟩
/-- a list of names, those that a test lets through -/
abbrev LfW (J : It) (g : TG) (tt : TT) (te : TE) (vs : List Nat) (σ : L2.St) (H1 : Hp) (D : Addr) (Qd : Hp → Prop) : Prop :=
  ∃ W : Nat → Nat → Hp → Prop, (∃ m, W 0 m (upd H1 D (.lst []))) ∧ ∀ i m H, W i m H →
    (J.stop i H ∧ Qd H) ∨ (J.go i H ∧ ∃ Nx : Hp → Prop, (∀ H', Nx H' → ∃ m', m' < m ∧ W (i + 1) m' H') ∧
      ∀ x H', J.yld i H x H' → g x (wipe σ vs) H' fun σ2 H2 => wipe σ2 vs = wipe σ vs ∧ tt σ2 H2 fun b H3 =>
        if b = true then te σ2 H3 fun y H4 => ∃ acc, H4 D = some (.lst acc) ∧ acc.length < sizeLine ∧ Nx (upd H4 D (.lst (acc ++ [y]))) else Nx H3)
theorem lc_filt {K : PySem.W.Frag} {a : Addr} {ns : List Str} {g : TG} {tt : TT} {te : TE} {vs : List Nat} {σ : L2.St} {H1 : Hp} {D : Addr} {Qd : Hp → Prop} (p : Str → Bool) (Jv : Hp → Prop) (h0 : Jv (upd H1 D (.lst [])))
    (hl : ∀ G, Jv G → SqL K G a (ns.map V.str)) (hJ : ∀ G acc acc', Jv G → G D = some (.lst acc) → Jv (upd G D (.lst acc'))) (hn : ns.length ≤ 100000)
    (hs : ∀ z G acc (Fin : V → Hp → Prop) (Fno : Hp → Prop), z ∈ ns → Jv G → G D = some (.lst acc) → (p z = true → ∀ G', Jv G' → G' D = some (.lst acc) → Fin (.str z) G') → (p z = false → ∀ G', Jv G' → G' D = some (.lst acc) → Fno G') →
      g (.str z) (wipe σ vs) G fun σ2 G2 => wipe σ2 vs = wipe σ vs ∧ tt σ2 G2 fun b G3 => if b = true then te σ2 G3 Fin else Fno G3)
    (hd : ∀ G, Jv G → G D = some (.lst ((ns.filter p).map V.str)) → Qd G) : LfW (Itl K a) g tt te vs σ H1 D Qd := by
  refine ⟨fun i m G => m = ns.length - i ∧ i ≤ ns.length ∧ Jv G ∧ G D = some (.lst (((ns.take i).filter p).map V.str)), ⟨ns.length, by simp, Nat.zero_le _, h0, upd_same⟩, ?_⟩
  rintro i m G ⟨rfl, hi, j, hD⟩
  have q := hl G j
  by_cases lt : i < ns.length
  · have tk : ns.take (i + 1) = ns.take i ++ [ns[i]] := by rw [List.take_succ, List.getElem?_eq_getElem lt]; rfl
    refine Or.inr ⟨⟨_, V.str ns[i], q, by simp [lt]⟩, fun G' => Jv G' ∧ G' D = some (.lst (((ns.take (i + 1)).filter p).map V.str)), fun G' z => ⟨_, by omega, rfl, lt, z⟩, fun x G' y => ?_⟩
    obtain ⟨rfl, y⟩ := y
    have ex : some x = some (V.str ns[i]) := by rw [← y _ q]; simp [lt]
    cases ex
    refine hs ns[i] G' _ (fun y H4 => ∃ acc, H4 D = some (.lst acc) ∧ acc.length < sizeLine ∧ (Jv (upd H4 D (.lst (acc ++ [y]))) ∧ (upd H4 D (.lst (acc ++ [y]))) D = some (.lst (((ns.take (i + 1)).filter p).map V.str)))) _ (List.getElem_mem lt) j hD (fun hp G2 j2 e2 => ⟨_, e2, ?_, hJ _ _ _ j2 e2, ?_⟩) (fun hp G2 j2 e2 => ⟨j2, ?_⟩)
    · have := List.length_filter_le p (ns.take i)
      rw [List.length_map]
      rw [List.length_take] at this
      exact line_lt (by omega)
    · rw [upd_same, tk, List.filter_append]
      simp [hp]
    · rw [e2, tk, List.filter_append]
      simp [hp]
  · have e : i = ns.length := by omega
    subst e
    rw [List.take_length] at hD
    exact Or.inl ⟨⟨_, q, by simp⟩, hd G j hD⟩
end K22
end
section
/-! ### rows, planes, pictures -/
namespace K22
open PySem PySem.Spec PyProof.Rows L2
theorem hu3_of {A : Around} {k : Nat} (hr : Room k A) : A.units + 3 < cLine := Nat.lt_of_le_of_lt (Nat.add_le_add_left (by decide : 3 ≤ 64) _) hr.units
section
variable {P : Program} {w : World} {K : PySem.W.Frag} {mg : Str → Option Value} {base : Heap}
/-! are_rows -/
structure Rws (H : Hp) (a : Addr) (as : List Addr) (wd : Nat) : Prop where
  at_ : H a = some (.tup (as.map V.ref))
  row : ∀ b ∈ as, ∃ zs, H b = some (.tup zs) ∧ zs.length = wd
  n1 : 1 ≤ as.length
  n2 : as.length ≤ 48
  w1 : 1 ≤ wd
  w2 : wd ≤ 48
def spRows : Sp := fun vs H Q _ => ∃ a as wd, vs = [.ref a, .int 48, .int 48] ∧ Rws H a as wd ∧ ∀ H', Same H H' → Q (.bl true) H'
theorem sc_are_rows : FnScope ["thing", "most_rows", "most_columns", "row"] ["thing", "most_rows", "most_columns"] (defScope s_are_rows) := ⟨rfl, rfl, rfl, by decide +kernel, rfl, by decide +kernel, by decide +kernel⟩
theorem ok_are_rows (T : Fx K mg w) : Cal P w K mg base 1 "are_rows" spRows [] := by
  refine cal_of T.d_are_rows sc_are_rows (fun _ _ _ _ _ _ us hl => match us, hl with | [_, _, _], _ => rfl) (fun vs H Q E h => ?_) (fun cdv A outer s H vs Q E hr h => ?_)
  · obtain ⟨a, as, wd, rfl, _⟩ := h
    rfl
  · have hu := hu_of hr
    refine ⟨_, (pss_cons (ps_if (PW.pt (pw_or (pt_not (pt_val (pe_callB (id := "isinstance") (cr_isiK (K := K) rfl) (by rfl) T.f_isinstance (by decide +kernel) (pa_cons (pv 0) (pa_cons (pe_bltn (v := .ty "tuple") (by rfl) T.f_tuple (by decide +kernel) rfl) pa_nil))))) (pw_or1 (pt_not (pt_chain op_le op_le pe_int (pe_callB (id := "len") (cr_lenK (K := K) rfl) (by rfl) T.f_len (by decide +kernel) (pa_cons (pv 0) pa_nil)) (pv 1)))))) (pss_one (ps_ret pe_bl)) pss_nil)
      (pss_cons (ps_if (pt_not (pt_val (pe_callB (id := "all") (cr_allK (K := K) rfl rfl) (by rfl) T.f_all (by decide +kernel) (pa_cons (pe_lc (own := [("row", 3)]) rfl sc_are_rows.nd (pi_tupK (K := K) rfl (pv 0)) (blkOk_by (N := ["thing", "most_rows", "most_columns", "row"]) (sc := defScope s_are_rows) (by decide +kernel)) (fun _ _ _ _ _ => (pg_name (i := 3) sc_are_rows.nd rfl (by first | exact Or.inl rfl | exact Or.inr rfl))) (fun _ _ _ _ _ => pts_nil) (fun _ _ _ _ _ => (pe_and (pe_callB (id := "isinstance") (cr_isiK (K := K) rfl) (by rfl) T.f_isinstance (by decide +kernel) (pa_cons (pv 3) (pa_cons (pe_bltn (v := .ty "tuple") (by rfl) T.f_tuple (by decide +kernel) rfl) pa_nil))) (pe_one (pe_chain op_le op_le pe_int (pe_callB (id := "len") (cr_lenK (K := K) rfl) (by rfl) T.f_len (by decide +kernel) (pa_cons (pv 3) pa_nil)) (pv 2)))))) pa_nil)))) (pss_one (ps_ret pe_bl)) pss_nil)
      (pss_one (ps_ret (pe_cmpR op_eq (pe_callB cr_lenSO (by rfl) T.f_len (by decide +kernel) (pa_cons (pe_scI (own := [("row", 3)]) rfl sc_are_rows.nd (pi_tupK (K := K) rfl (pv 0)) (blkOk_by (N := ["thing", "most_rows", "most_columns", "row"]) (sc := defScope s_are_rows) (by decide +kernel)) (fun _ _ _ _ _ => (pg_name (i := 3) sc_are_rows.nd rfl (by first | exact Or.inl rfl | exact Or.inr rfl))) (fun _ _ _ _ _ => pts_nil) (fun _ _ _ _ _ => (pe_callB (id := "len") (cr_lenK (K := K) rfl) (by rfl) T.f_len (by decide +kernel) (pa_cons (pv 3) pa_nil)))) pa_nil)) pe_int (nomark _)))))), ?_⟩
    obtain ⟨a, as, wd, rfl, R, q⟩ := h
    refine ⟨_, rfl, .ref _, .ty "tuple", .type "tuple", .type "tuple", true, rfl, .ty _, .base (.tup (R.at_)), kit_ty (by decide +kernel), true, rfl, iteF ?_⟩
    refine ⟨_, rfl, .ref _, _, rfl, Or.inr ⟨_, SqT.of (R.at_), rfl⟩, 1, _, rfl, rfl, _, rfl, ?_⟩
    have n1 := R.n1
    have n2 := R.n2
    refine if_true (by simp; omega) ⟨_, rfl, _, _, rfl, rfl, _, rfl, if_nottrue (by simp; omega) ?_⟩
    refine ⟨_, rfl, a, rfl, ⟨_, SqT.of R.at_⟩, fun D hD => ?_⟩
    refine lc_tupG (xs := as.map V.ref) (fun H' => Same H H') (fun _ y _ => y = .bl true) (Same.new hD) (fun H' j => j.sqt (SqT.of R.at_)) (fun H' acc acc' j e => j.to' hD) (fun _ _ _ _ _ h => h) (by simp; omega) (fun i x H' acc Fin hx j e k => ?_) fun H1 acc j e _ ho => ?_
    · obtain ⟨b, hb, rfl⟩ : ∃ b, b ∈ as ∧ x = V.ref b := by
        obtain ⟨n, h1, h2⟩ := List.mem_map.mp (List.mem_of_getElem? hx)
        exact ⟨n, h1, h2.symm⟩
      obtain ⟨zs, hz, hl⟩ := R.row b hb
      have w1 := R.w1
      have w2 := R.w2
      have hz := j _ _ hz
      refine ⟨rfl, _, rfl, .ref _, .ty "tuple", .type "tuple", .type "tuple", true, rfl, .ty _, .base (.tup (hz)), kit_ty (by decide +kernel), true, rfl, iteT ?_⟩
      refine ⟨_, rfl, .ref _, _, rfl, Or.inr ⟨_, SqT.of (hz), rfl⟩, 1, _, rfl, rfl, _, rfl, if_true (by omega) ⟨_, rfl, _, _, rfl, rfl, q_true (by omega) ?_⟩⟩
      exact k _ _ j e (TupS.refl _) rfl
    refine ⟨_, _, rfl, all_sq e ho, _, rfl, if_notB (all_true _) ?_⟩
    refine ⟨_, rfl, a, rfl, ⟨_, SqT.of (j _ _ R.at_)⟩, fun D2 hD2 => ?_⟩
    refine sc_int (wd : Int) (fun G => Same H1 G) (Same.new hD2) (fun G z => z.sqt (SqT.of (j _ _ R.at_))) (fun G o z => z.to' hD2) (by intro z; rw [List.map_eq_nil_iff] at z; rw [z] at n1; simp at n1) (fun i x G Fin hx z hS k => ?_) fun G S z hD3 => ?_
    · obtain ⟨b, hb, rfl⟩ : ∃ b, b ∈ as ∧ x = V.ref b := by
        obtain ⟨n, h1, h2⟩ := List.mem_map.mp (List.mem_of_getElem? hx)
        exact ⟨n, h1, h2.symm⟩
      obtain ⟨zs, hz, hl⟩ := R.row b hb
      have hz := z _ _ (j _ _ hz)
      refine ⟨rfl, _, rfl, .ref _, _, rfl, Or.inr ⟨_, SqT.of (hz), rfl⟩, ?_⟩
      rw [hl]
      exact k _ z rfl
    · refine ⟨D2, 1, rfl, Or.inl ⟨S, hD3⟩, rfl, ?_⟩
      exact q G (fun b u e => z b u (j b u e))
/-! is_window -/
def spWindow : Sp := fun vs H Q _ => ∃ a l u wd hg, vs = [.ref a] ∧ H a = some (.tup [.int l, .int u, .int wd, .int hg]) ∧ -1000 ≤ l ∧ l ≤ 1000 ∧ -1000 ≤ u ∧ u ≤ 1000 ∧ 1 ≤ wd ∧ wd ≤ 48 ∧ 1 ≤ hg ∧ hg ≤ 48 ∧ Q (.bl true) H
theorem sc_is_window : FnScope ["thing", "left", "up", "wide", "high"] ["thing"] (defScope s_is_window) := ⟨rfl, rfl, rfl, by decide +kernel, rfl, by decide +kernel, by decide +kernel⟩
theorem ok_is_window (T : Fx K mg w) : Cal P w K mg base 3 "is_window" spWindow [] := by
  have c_is_from : Cal P w K mg base 2 "is_from" spFrom [] := ok_is_from T
  refine cal_of T.d_is_window sc_is_window (fun _ _ _ _ _ _ us hl => match us, hl with | [_], _ => rfl) (fun vs H Q E h => ?_) (fun cdv A outer s H vs Q E hr h => ?_)
  · obtain ⟨a, l, u, wd, hg, rfl, _⟩ := h
    rfl
  · refine ⟨_, (pss_cons (ps_if (PW.pt (pw_or (pt_not (pt_val (pe_callB (id := "isinstance") (cr_isiK (K := K) rfl) (by rfl) T.f_isinstance (by decide +kernel) (pa_cons (pv 0) (pa_cons (pe_bltn (v := .ty "tuple") (by rfl) T.f_tuple (by decide +kernel) rfl) pa_nil))))) (pw_or1 (pt_cmpR op_ne (pe_callB (id := "len") (cr_lenK (K := K) rfl) (by rfl) T.f_len (by decide +kernel) (pa_cons (pv 0) pa_nil)) pe_int (nomark _))))) (pss_one (ps_ret pe_bl)) pss_nil)
      (pss_cons (ps_asg (pv 0) (pg_tupK (K := K) (n := 4) rfl rfl (pgs_cons (pg_name (i := 1) sc_is_window.nd rfl (Or.inl rfl)) (pgs_cons (pg_name (i := 2) sc_is_window.nd rfl (Or.inl rfl)) (pgs_cons (pg_name (i := 3) sc_is_window.nd rfl (Or.inl rfl)) (pgs_cons (pg_name (i := 4) sc_is_window.nd rfl (Or.inl rfl)) pgs_nil))))))
      (pss_cons (ps_if (PW.pt (pw_or (pt_not (pt_val (pe_c c_is_from hr (by omega) rfl (pa_cons (pv 1) (pa_cons (pe_un un_neg (C8.pe_gc rfl T.g_FARTHEST)) (pa_cons (C8.pe_gc rfl T.g_FARTHEST) pa_nil)))))) (pw_or1 (pt_not (pt_val (pe_c c_is_from hr (by omega) rfl (pa_cons (pv 2) (pa_cons (pe_un un_neg (C8.pe_gc rfl T.g_FARTHEST)) (pa_cons (C8.pe_gc rfl T.g_FARTHEST) pa_nil))))))))) (pss_one (ps_ret pe_bl)) pss_nil)
      (pss_one (ps_ret (pe_and (pe_c c_is_from hr (by omega) rfl (pa_cons (pv 3) (pa_cons pe_int (pa_cons (C8.pe_gc rfl T.g_WIDEST) pa_nil)))) (pe_one (pe_c c_is_from hr (by omega) rfl (pa_cons (pv 4) (pa_cons pe_int (pa_cons (C8.pe_gc rfl T.g_WIDEST) pa_nil))))))))))), ?_⟩
    obtain ⟨a, l, u, wd, hg, rfl, ha, l1, l2, u1, u2, w1, w2, h1, h2, q⟩ := h
    refine ⟨_, rfl, .ref _, .ty "tuple", .type "tuple", .type "tuple", true, rfl, .ty _, .base (.tup (ha)), kit_ty (by decide +kernel), true, rfl, iteF ?_⟩
    refine ⟨_, rfl, .ref _, _, rfl, Or.inr ⟨_, SqT.of (ha), rfl⟩, rfl, _, rfl, if_nottrue rfl ?_⟩
    refine ⟨_, rfl, _, _, rfl, SqT.of (ha), rfl, _, _, rfl, _, _, rfl, _, _, rfl, _, _, rfl, rfl, ?_⟩
    refine ⟨_, rfl, _, rfl, Or.inl ⟨l, _, _, rfl, l1, l2, true, rfl, iteF ?_⟩⟩
    refine ⟨_, rfl, _, rfl, Or.inl ⟨u, _, _, rfl, u1, u2, true, rfl, iteF ?_⟩⟩
    refine ⟨_, rfl, Or.inl ⟨wd, _, _, rfl, w1, w2, true, rfl, iteT ?_⟩⟩
    exact ⟨_, rfl, Or.inl ⟨hg, _, _, rfl, h1, h2, q⟩⟩
/-! lies_in -/
def spLies : Sp := fun vs H Q _ => ∃ a l u wd hg x y, vs = [.ref a, .int x, .int y] ∧ H a = some (.tup [.int l, .int u, .int wd, .int hg]) ∧ Q (.bl (decide (l ≤ x ∧ x < l + wd ∧ u ≤ y ∧ y < u + hg))) H
theorem sc_lies_in : FnScope ["window", "x", "y", "left", "up", "wide", "high"] ["window", "x", "y"] (defScope s_lies_in) := ⟨rfl, rfl, rfl, by decide +kernel, rfl, by decide +kernel, by decide +kernel⟩
theorem ok_lies_in (T : Fx K mg w) : Cal P w K mg base 1 "lies_in" spLies [] := by
  refine cal_of T.d_lies_in sc_lies_in (fun _ _ _ _ _ _ us hl => match us, hl with | [_, _, _], _ => rfl) (fun vs H Q E h => ?_) (fun cdv A outer s H vs Q E hr h => ?_)
  · obtain ⟨a, l, u, wd, hg, x, y, rfl, _⟩ := h
    rfl
  · refine ⟨_, (pss_cons (ps_asg (pv 0) (pg_tupK (K := K) (n := 4) rfl rfl (pgs_cons (pg_name (i := 3) sc_lies_in.nd rfl (Or.inl rfl)) (pgs_cons (pg_name (i := 4) sc_lies_in.nd rfl (Or.inl rfl)) (pgs_cons (pg_name (i := 5) sc_lies_in.nd rfl (Or.inl rfl)) (pgs_cons (pg_name (i := 6) sc_lies_in.nd rfl (Or.inl rfl)) pgs_nil))))))
      (pss_one (ps_ret (pe_and (pe_chain op_le op_lt (pv 3) (pv 1) (pe_op op_add (pv 3) (pv 5))) (pe_one (pe_chain op_le op_lt (pv 4) (pv 2) (pe_op op_add (pv 4) (pv 6)))))))), ?_⟩
    obtain ⟨a, l, u, wd, hg, x, y, rfl, ha, q⟩ := h
    refine ⟨_, rfl, _, _, rfl, SqT.of (ha), rfl, _, _, rfl, _, _, rfl, _, _, rfl, _, _, rfl, rfl, ?_⟩
    by_cases c1 : l ≤ x
    · by_cases c2 : x < l + wd
      · by_cases c3 : u ≤ y
        · refine ⟨_, rfl, _, rfl, _, _, rfl, rfl, _, rfl, if_true c1 ⟨_, rfl, _, rfl, _, _, rfl, rfl, _, _, rfl, rfl, _, rfl, if_true c2 ⟨_, rfl, _, rfl, _, _, rfl, rfl, _, rfl, if_true c3 ⟨_, rfl, _, rfl, _, _, rfl, rfl, _, _, rfl, rfl, ?_⟩⟩⟩⟩
          rw [show decide (l ≤ x ∧ x < l + wd ∧ u ≤ y ∧ y < u + hg) = decide (y < u + hg) from by simp [c1, c2, c3]] at q
          exact q
        · refine ⟨_, rfl, _, rfl, _, _, rfl, rfl, _, rfl, if_true c1 ⟨_, rfl, _, rfl, _, _, rfl, rfl, _, _, rfl, rfl, _, rfl, if_true c2 ⟨_, rfl, _, rfl, _, _, rfl, rfl, _, rfl, if_false c3 ?_⟩⟩⟩
          rw [show decide (l ≤ x ∧ x < l + wd ∧ u ≤ y ∧ y < u + hg) = false from by simp [c3]] at q
          exact q
      · refine ⟨_, rfl, _, rfl, _, _, rfl, rfl, _, rfl, if_true c1 ⟨_, rfl, _, rfl, _, _, rfl, rfl, _, _, rfl, rfl, _, rfl, if_false c2 ?_⟩⟩
        rw [show decide (l ≤ x ∧ x < l + wd ∧ u ≤ y ∧ y < u + hg) = false from by simp; omega] at q
        exact q
    · refine ⟨_, rfl, _, rfl, _, _, rfl, rfl, _, rfl, if_false c1 ⟨_, rfl, iteF ?_⟩⟩
      rw [show decide (l ≤ x ∧ x < l + wd ∧ u ≤ y ∧ y < u + hg) = false from by simp; omega] at q
      exact q
end
end K22
end
section
/-! ### planes, pictures -/
namespace K22
open PySem PySem.Spec PyProof.Rows L2
section
variable {P : Program} {w : World} {K : PySem.W.Frag} {mg : Str → Option Value} {base : Heap}
/-! are_planes -/
theorem rws_of {H : Hp} {b : Addr} {p : List (List Int)} {wd hg : Nat} (h : PlaneAt H b p) (hh : p.length = hg) (hw : ∀ r ∈ p, r.length = wd) (h1 : 1 ≤ hg) (h2 : hg ≤ 48) (w1 : 1 ≤ wd) (w2 : wd ≤ 48) : ∃ as, as.length = hg ∧ Rws H b as wd := by
  obtain ⟨as, e1, e2, e3⟩ := h
  refine ⟨as, by omega, e1, fun c hc => ?_, by omega, by omega, w1, w2⟩
  obtain ⟨r, hr, er⟩ := TAt.mem e2 e3 hc
  exact ⟨_, er, by rw [List.length_map]; exact hw r hr⟩
theorem snoc_true {acc : List V} (h : ∀ (i : Nat) y, acc[i]? = some y → y = V.bl true) (i : Nat) (y : V) (e : (acc ++ [V.bl true])[i]? = some y) : y = V.bl true := by
  by_cases lt : i < acc.length
  · rw [List.getElem?_append_left lt] at e
    exact h i y e
  · rw [List.getElem?_append_right (Nat.le_of_not_lt lt)] at e
    have m := List.mem_of_getElem? e
    simpa using m
def spPlanes : Sp := fun vs H Q _ => ∃ a np wd hg d pl, vs = [.ref a, .int d] ∧ PlanesAt H a pl ∧ OkPl np wd hg d pl ∧ ∀ H', Same H H' → Q (.bl true) H'
theorem sc_are_planes : FnScope ["thing", "depth", "plane", "row"] ["thing", "depth"] (defScope s_are_planes) := ⟨rfl, rfl, rfl, by decide +kernel, rfl, by decide +kernel, by decide +kernel⟩
theorem ok_are_planes (T : Fx K mg w) : Cal P w K mg base 4 "are_planes" spPlanes [] := by
  have c_are_rows : Cal P w K mg base 1 "are_rows" spRows [] := ok_are_rows T
  have c_are_wholes : Cal P w K mg base 3 "are_wholes" (spWholes K) [] := ok_are_wholes T
  refine cal_of T.d_are_planes sc_are_planes (fun _ _ _ _ _ _ us hl => match us, hl with | [_, _], _ => rfl) (fun vs H Q E h => ?_) (fun cdv A outer s H vs Q E hr h => ?_)
  · obtain ⟨a, np, wd, hg, d, pl, rfl, _⟩ := h
    rfl
  · have hu := hu_of hr
    refine ⟨_, (pss_cons (ps_if (PW.pt (pw_or (pt_not (pt_val (pe_callB (id := "isinstance") (cr_isiK (K := K) rfl) (by rfl) T.f_isinstance (by decide +kernel) (pa_cons (pv 0) (pa_cons (pe_bltn (v := .ty "tuple") (by rfl) T.f_tuple (by decide +kernel) rfl) pa_nil))))) (pw_or1 (pt_not (pt_chain op_le op_le pe_int (pe_callB (id := "len") (cr_lenK (K := K) rfl) (by rfl) T.f_len (by decide +kernel) (pa_cons (pv 0) pa_nil)) (C8.pe_gc rfl T.g_MOST_PLANES)))))) (pss_one (ps_ret pe_bl)) pss_nil)
      (pss_cons (ps_if (pt_not (pt_val (pe_callB (id := "all") (cr_allK (K := K) rfl rfl) (by rfl) T.f_all (by decide +kernel) (pa_cons (pe_lc (own := [("plane", 2)]) rfl sc_are_planes.nd (pi_tupK (K := K) rfl (pv 0)) (blkOk_by (N := ["thing", "depth", "plane", "row"]) (sc := defScope s_are_planes) (by decide +kernel)) (fun _ _ _ _ _ => (pg_name (i := 2) sc_are_planes.nd rfl (by first | exact Or.inl rfl | exact Or.inr rfl))) (fun _ _ _ _ _ => pts_nil) (fun _ _ _ _ _ => (pe_c c_are_rows hr (by omega) rfl (pa_cons (pv 2) (pa_cons (C8.pe_gc rfl T.g_WIDEST) (pa_cons (C8.pe_gc rfl T.g_WIDEST) pa_nil)))))) pa_nil)))) (pss_one (ps_ret pe_bl)) pss_nil)
      (pss_cons (ps_if (pt_cmpR op_ne (pe_callB cr_lenSO (by rfl) T.f_len (by decide +kernel) (pa_cons (pe_scT hu (own := [("plane", 2)]) rfl sc_are_planes.nd (pi_tupK (K := K) rfl (pv 0)) (blkOk_by (N := ["thing", "depth", "plane", "row"]) (sc := defScope s_are_planes) (by decide +kernel)) (fun _ _ _ _ _ => (pg_name (i := 2) sc_are_planes.nd rfl (by first | exact Or.inl rfl | exact Or.inr rfl))) (fun _ _ _ _ _ => pts_nil) (fun _ _ _ _ _ => (pe_tup (pa_cons (pe_callB (id := "len") (cr_lenK (K := K) rfl) (by rfl) T.f_len (by decide +kernel) (pa_cons (pv 2) pa_nil)) (pa_cons (pe_callB (id := "len") (cr_lenK (K := K) rfl) (by rfl) T.f_len (by decide +kernel) (pa_cons (pe_ix (ix_tupK (K := K) rfl) (pv 2) pe_int (fun _ _ => rfl)) pa_nil)) pa_nil))))) pa_nil)) pe_int (nomark _)) (pss_one (ps_ret pe_bl)) pss_nil)
      (pss_one (ps_ret (pe_callB (id := "all") (cr_allK (K := K) rfl rfl) (by rfl) T.f_all (by decide +kernel) (pa_cons (pe_lc2 (vs1 := [3]) (own := [("plane", 2), ("row", 3)]) rfl sc_are_planes.nd (pi_tupK (K := K) rfl (pv 0)) (blkOk_by (N := ["thing", "depth", "plane", "row"]) (sc := defScope s_are_planes) (by decide +kernel)) (by decide) (fun _ _ _ _ _ => (pg_name (i := 2) sc_are_planes.nd rfl (by first | exact Or.inl rfl | exact Or.inr rfl))) (fun _ _ _ _ _ => pts_nil) (fun _ _ _ _ _ => (pi_tupK (K := K) rfl (pv 2))) (fun _ _ _ _ _ => (pg_name (i := 3) sc_are_planes.nd rfl (by first | exact Or.inl rfl | exact Or.inr rfl))) (fun _ _ _ _ _ => pts_nil) (fun _ _ _ _ _ => (pe_c c_are_wholes hr (by omega) rfl (pa_cons (pv 3) (pa_cons pe_int (pa_cons (pv 1) pa_nil)))))) pa_nil))))))), ?_⟩
    obtain ⟨a, np, wd, hg, d, pl, rfl, hp, O, q⟩ := h
    obtain ⟨as, ha, hl, hm⟩ := id hp
    have n1 := O.n1
    have n2 := O.n2
    have en := O.n
    refine ⟨_, rfl, .ref _, .ty "tuple", .type "tuple", .type "tuple", true, rfl, .ty _, .base (.tup (ha)), kit_ty (by decide +kernel), true, rfl, iteF ?_⟩
    refine ⟨_, rfl, .ref _, _, rfl, Or.inr ⟨_, SqT.of (ha), rfl⟩, 1, _, rfl, rfl, _, rfl, if_true (by simp; omega) ⟨_, _, rfl, rfl, _, rfl, if_nottrue (by simp; omega) ?_⟩⟩
    refine ⟨_, rfl, a, rfl, ⟨_, SqT.of ha⟩, fun D hD => ?_⟩
    refine lc_tupG (xs := as.map V.ref) (fun H' => Same H H') (fun _ y _ => y = .bl true) (Same.new hD) (fun H' j => j.sqt (SqT.of ha)) (fun H' acc acc' j e => j.to' hD) (fun _ _ _ _ _ h => h) (by simp; omega) (fun i x H' acc Fin hx j e k => ?_) fun H1 acc j e _ ho => ?_
    · obtain ⟨b, hb, rfl⟩ := mem_ref hx
      obtain ⟨p, hpm, hpb⟩ := TAt.mem hl hm hb
      obtain ⟨cs, ec, R⟩ := rws_of (PlaneAt.mono hpb (TupS.of j)) (O.hgt p hpm) (O.wid p hpm) O.h1 O.h2 O.w1 O.w2
      refine ⟨rfl, _, rfl, b, cs, wd, rfl, R, fun H2 s2 => ?_⟩
      exact k _ _ (j.trans s2) (s2 _ _ e) (TupS.of s2) rfl
    refine ⟨_, _, rfl, all_sq e ho, _, rfl, if_notB (all_true _) ?_⟩
    refine ⟨_, rfl, a, rfl, ⟨_, SqT.of (j _ _ ha)⟩, fun D2 hD2 => ?_⟩
    refine sc_tup [(hg : Int), (wd : Int)] (fun G => Same H1 G) (Same.new hD2) (fun G z => z.sqt (SqT.of (j _ _ ha))) (fun G L L' z _ => z.to' hD2) (by intro z; rw [List.map_eq_nil_iff] at z; rw [z] at hl; simp at hl; omega) (fun i x G Fin hx z hS k => ?_) fun G p z hD3 => ?_
    · obtain ⟨b, hb, rfl⟩ := mem_ref hx
      obtain ⟨p, hpm, hpb⟩ := TAt.mem hl hm hb
      obtain ⟨cs, ec, R⟩ := rws_of (PlaneAt.mono (PlaneAt.mono hpb (TupS.of j)) (TupS.of z)) (O.hgt p hpm) (O.wid p hpm) O.h1 O.h2 O.w1 O.w2
      have hh1 := O.h1
      obtain ⟨c0, cs', rfl⟩ : ∃ c0 cs', cs = c0 :: cs' := by
        cases cs with
        | nil => simp at ec; omega
        | cons c0 cs' => exact ⟨c0, cs', rfl⟩
      obtain ⟨zs, hz, hzl⟩ := R.row c0 (List.mem_cons_self)
      refine ⟨rfl, _, rfl, .ref _, _, rfl, Or.inr ⟨_, SqT.of (R.at_), rfl⟩, _, rfl, _, _, _, _, rfl, rfl, SqT.of R.at_, atI_nat (j := 0) rfl, .ref _, _, rfl, Or.inr ⟨_, SqT.of (hz), rfl⟩, (by rw [sizeLine_eq]; exact Nat.le_of_ble_eq_true rfl), fun p hp => ?_⟩
      obtain ⟨L, hL⟩ := hS
      refine k _ p (fun b u e => ?_) ?_ (fun b zs e => ?_) ?_
      · rw [upd_ne (ne_of_none (z _ _ e) hp)]
        exact z _ _ e
      · rw [upd_ne (ne_of_none hL hp)]
      · rw [upd_ne (ne_of_none e hp)]
        exact e
      · rw [upd_same, hzl, ← ec]
        simp
    refine ⟨D2, 1, rfl, Or.inr ⟨[p], rfl, hD3⟩, rfl, _, rfl, if_nottrue rfl ?_⟩
    have j2 : Same H G := fun b u e => z b u (j b u e)
    refine ⟨_, rfl, a, rfl, ⟨_, SqT.of (j2 _ _ ha)⟩, fun D3 hD4 => ?_⟩
    refine ⟨fun i m G' => m = as.length - i ∧ i ≤ as.length ∧ Same G G' ∧ ∃ acc, G' D3 = some (.lst acc) ∧ acc.length ≤ i * 48 ∧ ∀ (i : Nat) y, acc[i]? = some y → y = V.bl true, ⟨_, rfl, Nat.zero_le _, Same.new hD4, [], upd_same, Nat.zero_le _, fun i y e => by simp at e⟩, ?_⟩
    rintro i m G1 ⟨rfl, hi, j3, acc3, hacc, hal, hat⟩
    have j4 : Same H G1 := fun b u e => j3 b u (j2 b u e)
    by_cases lt : i < as.length
    · refine Or.inr ⟨⟨_, V.ref as[i], SqT.of (j4 _ _ ha), by simp [lt]⟩, fun G' => Same G G' ∧ ∃ acc, G' D3 = some (.lst acc) ∧ acc.length ≤ (i + 1) * 48 ∧ ∀ (i : Nat) y, acc[i]? = some y → y = V.bl true, fun G' z => ⟨_, by omega, rfl, lt, z⟩, fun x G' y => ?_⟩
      obtain ⟨rfl, y⟩ := y
      have ex : some x = some (V.ref as[i]) := by rw [← y _ (SqT.of (j4 _ _ ha))]; simp [lt]
      cases ex
      obtain ⟨p, hpm, hpb⟩ := TAt.mem hl hm (List.getElem_mem lt)
      obtain ⟨bs, hb, hbl, hbm⟩ := id hpb
      have hh := O.hgt p hpm
      have hh2 := O.h2
      refine ⟨rfl, ?_⟩
      refine ⟨_, rfl, _, rfl, ⟨_, SqT.of (j4 _ _ hb)⟩, ?_⟩
      refine ⟨fun k m G2 => m = bs.length - k ∧ k ≤ bs.length ∧ Same G G2 ∧ ∃ acc, G2 D3 = some (.lst acc) ∧ acc.length ≤ i * 48 + k ∧ ∀ (i : Nat) y, acc[i]? = some y → y = V.bl true, ⟨_, rfl, Nat.zero_le _, j3, acc3, hacc, by omega, hat⟩, ?_⟩
      rintro k m G2 ⟨rfl, hk, s2, acc4, hacc4, hal4, hat4⟩
      have j5 : Same H G2 := fun b u e => s2 b u (j2 b u e)
      have hbs := j5 _ _ hb
      by_cases lk : k < bs.length
      · refine Or.inr ⟨⟨_, V.ref bs[k], SqT.of hbs, by simp [lk]⟩, fun G' => Same G G' ∧ ∃ acc, G' D3 = some (.lst acc) ∧ acc.length ≤ i * 48 + (k + 1) ∧ ∀ (i : Nat) y, acc[i]? = some y → y = V.bl true, fun G' z => ⟨_, by omega, rfl, lk, z⟩, fun x G' y => ?_⟩
        obtain ⟨rfl, y⟩ := y
        have ex : some x = some (V.ref bs[k]) := by rw [← y _ (SqT.of hbs)]; simp [lk]
        cases ex
        have lk2 : k < p.length := by rw [← hbl]; exact lk
        obtain ⟨b', e1, e2⟩ := hbm k p[k] (by simp [lk2])
        have eb : b' = bs[k] := by
          rw [List.getElem?_eq_getElem lk] at e1
          exact (Option.some.inj e1).symm
        subst eb
        have hrm : p[k] ∈ p := List.getElem_mem lk2
        have e3 : RowAt G' bs[k] p[k] := j5 _ _ e2
        have wl := O.wid p hpm _ hrm
        have w2 := O.w2
        refine ⟨rfl, ?_⟩
        refine ⟨_, rfl, _, rfl, _, 0, d, p[k], rfl, e3, by omega, O.rng p hpm _ hrm, fun G5 s5 => ?_⟩
        refine ⟨acc4, s5 _ _ hacc4, line_lt (by omega), fun b u e => ?_, _, upd_same, by simp; omega, fun i y e => ?_⟩
        · rw [upd_ne (ne_of_none e hD4)]
          exact s5 _ _ (s2 b u e)
        · exact snoc_true hat4 i y e
      · have e : k = bs.length := by omega
        subst e
        refine Or.inl ⟨⟨_, SqT.of hbs, by simp⟩, s2, acc4, hacc4, by omega, hat4⟩
    · have e : i = as.length := by omega
      subst e
      refine Or.inl ⟨⟨_, SqT.of (j4 _ _ ha), by simp⟩, ?_⟩
      refine ⟨_, _, rfl, all_sq hacc hat, ?_⟩
      rw [all_true]
      exact q _ j4
end
end K22
end
section
/-! ### pictures -/
namespace K22
open PySem PySem.Spec PyProof.Rows L2 LamX
structure Pic where
  pl : List (List (List Int))
  left : Int
  up : Int
  depth : Int
def PicAt (K : PySem.W.Frag) (H : Hp) (a : Addr) (p : Pic) : Prop :=
  ∃ dx pa, H a = some (.ins (He.ga K "Picture") dx [("planes", .ref pa), ("left", .int p.left), ("up", .int p.up), ("depth", .int p.depth)]) ∧ PlanesAt H pa p.pl
/-- all that stays: tuples, pictures, dicts -/
def Fz (K : PySem.W.Frag) : HO → Prop
  | .tup _ => True
  | .dK _ => True
  | .ins _ _ fs => fs.length = 4
  | _ => False
def Kp (K : PySem.W.Frag) (H H' : Hp) : Prop := ∀ b o, H b = some o → Fz K o → H' b = some o
section
variable {K : PySem.W.Frag} {H H' H2 : Hp}
theorem Kp.of (s : Same H H') : Kp K H H' := fun b o e _ => s b o e
theorem Kp.refl (H : Hp) : Kp K H H := fun _ _ e _ => e
theorem Kp.trans (a : Kp K H H') (b : Kp K H' H2) : Kp K H H2 := fun c o e f => b c o (a c o e f) f
theorem Kp.tups (k : Kp K H H') : TupS H H' := fun b zs e => k b _ e trivial
theorem Kp.ext (e : ExtN H H') : Kp K H H' := fun b o h f => e b o h fun ps z => by subst z; exact f
theorem PicAt.mono {a : Addr} {p : Pic} (h : PicAt K H a p) (k : Kp K H H') : PicAt K H' a p := by
  obtain ⟨dx, pa, h1, h2⟩ := h
  exact ⟨dx, pa, k _ _ h1 rfl, PlanesAt.mono h2 k.tups⟩
end
structure OkPic (np wd hg : Nat) (p : Pic) : Prop where
  pl : OkPl np wd hg p.depth p.pl
  l1 : -1000 ≤ p.left
  l2 : p.left ≤ 1000
  u1 : -1000 ≤ p.up
  u2 : p.up ≤ 1000
  d1 : 1 ≤ p.depth
  d2 : p.depth ≤ 65535
def pget (pl : List (List (List Int))) (p j i : Nat) : Int := ((pl.getD p []).getD j []).getD i 0
theorem planes_cell {H : Hp} {a : Addr} {np wd hg : Nat} {d : Int} {pl : List (List (List Int))} (h : PlanesAt H a pl) (O : OkPl np wd hg d pl) {p j i : Nat} (hp : p < np) (hj : j < hg) (hi : i < wd) :
    ∃ as bs cs b c, H a = some (.tup as) ∧ as[p]? = some (V.ref b) ∧ H b = some (.tup bs) ∧ bs[j]? = some (V.ref c) ∧ H c = some (.tup cs) ∧ cs[i]? = some (V.int (pget pl p j i)) ∧ as.length = np ∧ bs.length = hg ∧ cs.length = wd := by
  obtain ⟨as, ha, hl, hm⟩ := h
  have lp : p < pl.length := by rw [O.n]; exact hp
  obtain ⟨b, eb, bs, hb, hbl, hbm⟩ := hm p pl[p] (by simp [lp])
  have eh := O.hgt _ (List.getElem_mem lp)
  have lj : j < pl[p].length := by rw [eh]; exact hj
  obtain ⟨c, ec, hc⟩ := hbm j pl[p][j] (by simp [lj])
  have ew := O.wid _ (List.getElem_mem lp) _ (List.getElem_mem lj)
  have li : i < pl[p][j].length := by rw [ew]; exact hi
  refine ⟨_, _, _, b, c, ha, by rw [List.getElem?_map, eb]; rfl, hb, by rw [List.getElem?_map, ec]; rfl, hc, ?_, by rw [List.length_map, hl, O.n], by rw [List.length_map, hbl, eh], by rw [List.length_map, ew]⟩
  unfold pget
  simp [lp, lj, li, List.getD_eq_getElem?_getD]
theorem pget_rng {np wd hg : Nat} {d : Int} {pl : List (List (List Int))} (O : OkPl np wd hg d pl) {p j i : Nat} (hp : p < np) (hj : j < hg) (hi : i < wd) : 0 ≤ pget pl p j i ∧ pget pl p j i ≤ d := by
  have lp : p < pl.length := by rw [O.n]; exact hp
  have eh := O.hgt _ (List.getElem_mem lp)
  have lj : j < pl[p].length := by rw [eh]; exact hj
  have ew := O.wid _ (List.getElem_mem lp) _ (List.getElem_mem lj)
  have li : i < pl[p][j].length := by rw [ew]; exact hi
  have q := O.rng _ (List.getElem_mem lp) _ (List.getElem_mem lj) _ (List.getElem_mem li)
  unfold pget
  simp [lp, lj, li, List.getD_eq_getElem?_getD]
  exact q
section
variable {P : Program} {w : World} {K : PySem.W.Frag} {mg : Str → Option Value} {base : Heap}
/-! Picture(..) -/
def spInit (K : PySem.W.Frag) : Sp := fun vs H Q _ => ∃ x dx pa np wd hg, ∃ p : Pic, vs = [.ref x, .ref pa, .int p.left, .int p.up, .int p.depth] ∧ H x = some (.ins (He.ga K "Picture") dx []) ∧ PlanesAt H pa p.pl ∧ OkPic np wd hg p ∧
  ∀ H', (∀ b o, b ≠ x → H b = some o → H' b = some o) → H' x = some (.ins (He.ga K "Picture") dx [("planes", .ref pa), ("left", .int p.left), ("up", .int p.up), ("depth", .int p.depth)]) → Q .non H'
theorem sc_Picture_init : FnScope ["self", "planes", "left", "up", "depth"] ["self", "planes", "left", "up", "depth"] (defScope sPicture_init) := ⟨rfl, rfl, rfl, by decide +kernel, rfl, by decide +kernel, by decide +kernel⟩
theorem fn_init (T : Fx K mg w) {fd : FuncData} (F : FunD K "__init__" "Picture.__init__" (defArgs sPicture_init) (defBody sPicture_init) (defScope sPicture_init) [] [("left", V.int 0), ("up", V.int 0), ("depth", V.int 255)] (He.ma K (He.ga K "Picture") "__init__") fd) :
    FnOk P w K mg base CX0 6 (He.ma K (He.ga K "Picture") "__init__") fd ["self", "planes", "left", "up", "depth"] (spInit K) := by
  have c_is_from : Cal P w K mg base 2 "is_from" spFrom [] := ok_is_from T
  have c_are_planes : Cal P w K mg base 4 "are_planes" spPlanes [] := ok_are_planes T
  refine fn_kw F sc_Picture_init (fun vs H Q E h => ?_) (fun cdv A outer s H vs Q E hr h => ?_)
  · obtain ⟨x, dx, pa, np, wd, hg, p, rfl, _⟩ := h
    rfl
  · refine ⟨_, (pss_cons (ps_if (PW.pt (pw_or (pt_not (pt_val (pe_c c_is_from hr (by omega) rfl (pa_cons (pv 2) (pa_cons (pe_un un_neg (C8.pe_gc rfl T.g_FARTHEST)) (pa_cons (C8.pe_gc rfl T.g_FARTHEST) pa_nil)))))) (pw_or1 (pt_not (pt_val (pe_c c_is_from hr (by omega) rfl (pa_cons (pv 3) (pa_cons (pe_un un_neg (C8.pe_gc rfl T.g_FARTHEST)) (pa_cons (C8.pe_gc rfl T.g_FARTHEST) pa_nil))))))))) pss_never pss_nil)
      (pss_cons (ps_if (PW.pt (pw_or (pt_not (pt_val (pe_c c_is_from hr (by omega) rfl (pa_cons (pv 4) (pa_cons pe_int (pa_cons (C8.pe_gc rfl T.g_DEEPEST) pa_nil)))))) (pw_or1 (pt_not (pt_val (pe_c c_are_planes hr (by omega) rfl (pa_cons (pv 1) (pa_cons (pv 4) pa_nil)))))))) pss_never pss_nil)
      (pss_cons (ps_fld (pv 0) (pv 1) rfl)
      (pss_cons (ps_fld (pv 0) (pv 2) rfl)
      (pss_cons (ps_fld (pv 0) (pv 3) rfl)
      (pss_one (ps_fld (pv 0) (pv 4) rfl))))))), ?_⟩
    obtain ⟨x, dx, pa, np, wd, hg, p, rfl, hx, hp, O, q⟩ := h
    refine ⟨_, rfl, _, rfl, Or.inl ⟨p.left, _, _, rfl, O.l1, O.l2, true, rfl, iteF ?_⟩⟩
    refine ⟨_, rfl, _, rfl, Or.inl ⟨p.up, _, _, rfl, O.u1, O.u2, true, rfl, iteF ?_⟩⟩
    refine ⟨_, rfl, Or.inl ⟨p.depth, _, _, rfl, O.d1, O.d2, true, rfl, iteF ?_⟩⟩
    refine ⟨_, rfl, _, rfl, pa, np, wd, hg, p.depth, p.pl, rfl, hp, O.pl, fun H1 s1 => ?_⟩
    refine ⟨true, rfl, iteF ?_⟩
    refine ⟨_, rfl, _, rfl, x, _, dx, [], rfl, s1 _ _ hx, T.cl_Picture, T.na_planes, by decide, ?_⟩
    refine ⟨_, rfl, _, rfl, x, _, dx, [("planes", .ref pa)], rfl, upd_same, T.cl_Picture, T.na_left, (by simp), ?_⟩
    refine ⟨_, rfl, _, rfl, x, _, dx, [("planes", .ref pa), ("left", .int p.left)], rfl, upd_same, T.cl_Picture, T.na_up, (by simp), ?_⟩
    refine ⟨_, rfl, _, rfl, x, _, dx, [("planes", .ref pa), ("left", .int p.left), ("up", .int p.up)], rfl, upd_same, T.cl_Picture, T.na_depth, (by simp), ?_⟩
    refine q _ (fun b o ne e => ?_) upd_same
    rw [upd_ne ne, upd_ne ne, upd_ne ne, upd_ne ne]
    exact s1 _ _ e
theorem mk_picture (T : Fx K mg w) : MakN P w K mg base 6 "Picture" (spInit K) 1 ["left", "up", "depth"] (fun vs zs => vs ++ zs) := by
  obtain ⟨fd, F⟩ := T.dPicture_init
  obtain ⟨u, hm, hv⟩ := T.c_Picture
  cases hv
  obtain ⟨mv, B⟩ := F.kbinds0 (ps := ["self", "planes", "left", "up", "depth"]) 2 ["left", "up", "depth"] [] (fun us _ ws => us ++ ws) (by decide) (fun q h => by cases h) (fun r1 _ r3 => r1.append r3)
    (fun D doc pm an cdv ct us mv ws l1 l2 l3 => by
      match us, mv, ws, l1, l2, l3 with
      | [_, _], [], [_, _, _], _, _, _ => rfl)
  exact ⟨_, fd, _, _, T.mk_Picture, fn_init T F, hm, B⟩
/-! window -/
def spWin (K : PySem.W.Frag) : Sp := fun vs H Q _ => ∃ a np wd hg, ∃ p : Pic, vs = [.ref a] ∧ PicAt K H a p ∧ OkPl np wd hg p.depth p.pl ∧ ∀ t, H t = none → Q (.ref t) (upd H t (.tup [.int p.left, .int p.up, .int wd, .int hg]))
theorem sc_Picture_window : FnScope ["self", "plane"] ["self"] (defScope sPicture_window) := ⟨rfl, rfl, rfl, by decide +kernel, rfl, by decide +kernel, by decide +kernel⟩
theorem ok_window (T : Fx K mg w) : Met P w K mg base 1 (He.ga K "Picture") "window" (spWin K) := by
  obtain ⟨fd, F⟩ := T.dPicture_window
  refine met_of T.cl_Picture T.me_window F sc_Picture_window (fun _ _ _ _ _ _ us hl => match us, hl with | [_], _ => rfl) (fun vs H Q E h => ?_) (fun cdv A outer s H vs Q E hr h => ?_)
  · obtain ⟨a, np, wd, hg, p, rfl, _⟩ := h
    rfl
  · refine ⟨_, (pss_cons (ps_set (i := 1) sc_Picture_window.nd rfl (Or.inl rfl) (pe_ix (ix_tupK (K := K) rfl) (pe_fld (pv 0) rfl) pe_int (fun _ _ => rfl)))
      (pss_one (ps_ret (pe_tup (pa_cons (pe_fld (pv 0) rfl) (pa_cons (pe_fld (pv 0) rfl) (pa_cons (pe_callB (id := "len") (cr_lenK (K := K) rfl) (by rfl) T.f_len (by decide +kernel) (pa_cons (pe_ix (ix_tupK (K := K) rfl) (pv 1) pe_int (fun _ _ => rfl)) pa_nil)) (pa_cons (pe_callB (id := "len") (cr_lenK (K := K) rfl) (by rfl) T.f_len (by decide +kernel) (pa_cons (pv 1) pa_nil)) pa_nil)))))))), ?_⟩
    obtain ⟨a, np, wd, hg, p, rfl, ⟨dx, pa, ha, hp⟩, O, q⟩ := h
    obtain ⟨as, bs, cs, b, c, e1, e2, e3, e4, e5, e6, e7, e8, e9⟩ := planes_cell hp O (p := 0) (j := 0) (i := 0) O.n1 O.h1 O.w1
    refine ⟨_, rfl, _, _, _, _, _, rfl, (ha), T.cl_Picture, T.na_planes, rfl, _, _, _, _, rfl, rfl, SqT.of (e1), atI_nat (j := 0) e2, ?_⟩
    refine ⟨_, rfl, _, _, _, _, _, rfl, (ha), T.cl_Picture, T.na_left, rfl, _, rfl, _, _, _, _, _, rfl, (ha), T.cl_Picture, T.na_up, rfl, _, rfl, _, _, _, _, rfl, rfl, SqT.of (e3), atI_nat (j := 0) e4, .ref _, _, rfl, Or.inr ⟨_, SqT.of (e5), rfl⟩, _, rfl, .ref _, _, rfl, Or.inr ⟨_, SqT.of (e3), rfl⟩, (by rw [sizeLine_eq]; exact Nat.le_of_ble_eq_true rfl), fun t ht => ?_⟩
    rw [e8, e9]
    exact q t ht
/-! at -/
def spAt (K : PySem.W.Frag) : Sp := fun vs H Q _ => ∃ a np wd hg, ∃ p : Pic, ∃ i j k : Nat, vs = [.ref a, .int (p.left + i), .int (p.up + j), .int k] ∧ PicAt K H a p ∧ OkPl np wd hg p.depth p.pl ∧ i < wd ∧ j < hg ∧ k < np ∧ ∀ H', Same H H' → Q (.int (pget p.pl k j i)) H'
theorem sc_Picture_at : FnScope ["self", "x", "y", "plane"] ["self", "x", "y", "plane"] (defScope sPicture_at) := ⟨rfl, rfl, rfl, by decide +kernel, rfl, by decide +kernel, by decide +kernel⟩
theorem fn_at (T : Fx K mg w) {fd : FuncData} (F : FunD K "at" "Picture.at" (defArgs sPicture_at) (defBody sPicture_at) (defScope sPicture_at) [] [("plane", V.int 0)] (He.ma K (He.ga K "Picture") "at") fd) :
    FnOk P w K mg base CX0 4 (He.ma K (He.ga K "Picture") "at") fd ["self", "x", "y", "plane"] (spAt K) := by
  have c_is_from : Cal P w K mg base 2 "is_from" spFrom [] := ok_is_from T
  have c_is_whole : Cal P w K mg base 1 "is_whole" spWhole [] := ok_is_whole T
  have c_lies_in : Cal P w K mg base 1 "lies_in" spLies [] := ok_lies_in T
  have c_window : Met P w K mg base 1 (He.ga K "Picture") "window" (spWin K) := ok_window T
  refine fn_kw F sc_Picture_at (fun vs H Q E h => ?_) (fun cdv A outer s H vs Q E hr h => ?_)
  · obtain ⟨a, np, wd, hg, p, i, j, k, rfl, _⟩ := h
    rfl
  · refine ⟨_, (pss_cons (ps_if (PW.pt (pw_or (pt_not (pt_val (pe_c c_is_whole hr (by omega) rfl (pa_cons (pv 1) pa_nil)))) (pw_or (pt_not (pt_val (pe_c c_is_whole hr (by omega) rfl (pa_cons (pv 2) pa_nil)))) (pw_or1 (pt_not (pt_val (pe_c c_lies_in hr (by omega) rfl (pa_cons (pe_mt0 c_window hr (by omega) (pv 0)) (pa_cons (pv 1) (pa_cons (pv 2) pa_nil)))))))))) pss_never pss_nil)
      (pss_cons (ps_if (pt_not (pt_val (pe_c c_is_from hr (by omega) rfl (pa_cons (pv 3) (pa_cons pe_int (pa_cons (pe_op op_sub (pe_callB (id := "len") (cr_lenK (K := K) rfl) (by rfl) T.f_len (by decide +kernel) (pa_cons (pe_fld (pv 0) rfl) pa_nil)) pe_int) pa_nil)))))) pss_never pss_nil)
      (pss_one (ps_ret (pe_ix (ix_tupK (K := K) rfl) (pe_ix (ix_tupK (K := K) rfl) (pe_ix (ix_tupK (K := K) rfl) (pe_fld (pv 0) rfl) (pv 3) (fun _ _ => rfl)) (pe_op op_sub (pv 2) (pe_fld (pv 0) rfl)) (fun _ _ => rfl)) (pe_op op_sub (pv 1) (pe_fld (pv 0) rfl)) (fun _ _ => rfl)))))), ?_⟩
    obtain ⟨a, np, wd, hg, p, i, j, k, rfl, hpic, O, hi, hj, hk, q⟩ := h
    obtain ⟨dx, pa, ha, hp⟩ := id hpic
    obtain ⟨as, bs, cs, b, c, e1, e2, e3, e4, e5, e6, e7, e8, e9⟩ := planes_cell hp O hk hj hi
    refine ⟨_, rfl, Or.inl ⟨_, rfl, true, rfl, iteF ?_⟩⟩
    refine ⟨_, rfl, Or.inl ⟨_, rfl, true, rfl, iteF ?_⟩⟩
    refine ⟨_, rfl, a, dx, _, rfl, ha, rfl, ?_⟩
    refine ⟨a, np, wd, hg, p, rfl, hpic, O, fun t ht => ?_⟩
    have st : Same H (upd H t (.tup [.int p.left, .int p.up, .int wd, .int hg])) := Same.new ht
    refine ⟨_, rfl, _, rfl, t, _, _, _, _, _, _, rfl, upd_same, ?_⟩
    refine ⟨_, rfl, if_notB (decide_eq_true ⟨by omega, by omega, by omega, by omega⟩) ?_⟩
    refine ⟨_, rfl, _, rfl, _, _, _, _, _, rfl, (st _ _ ha), T.cl_Picture, T.na_planes, rfl, .ref _, _, rfl, Or.inr ⟨_, SqT.of (st _ _ e1), rfl⟩, _, _, rfl, rfl, Or.inl ⟨_, _, _, rfl, by omega, by omega, true, rfl, iteF ?_⟩⟩
    refine ⟨_, rfl, _, _, _, _, _, rfl, (st _ _ ha), T.cl_Picture, T.na_planes, rfl, _, rfl, _, _, _, _, rfl, rfl, SqT.of (st _ _ e1), atI_nat e2, ?_⟩
    refine ⟨_, rfl, _, rfl, _, _, _, _, _, rfl, (st _ _ ha), T.cl_Picture, T.na_up, rfl, _, _, rfl, rfl, _, _, _, _, rfl, rfl, SqT.of (st _ _ e3), (by rw [show p.up + (j : Int) - p.up = j by omega]; exact atI_nat e4), ?_⟩
    refine ⟨_, rfl, _, rfl, _, _, _, _, _, rfl, (st _ _ ha), T.cl_Picture, T.na_left, rfl, _, _, rfl, rfl, _, _, _, _, rfl, rfl, SqT.of (st _ _ e5), (by rw [show p.left + (i : Int) - p.left = i by omega]; exact atI_nat e6), ?_⟩
    exact q _ st
theorem mt_at (T : Fx K mg w) : MetN P w K mg base 4 (He.ga K "Picture") "at" (spAt K) 3 ["plane"] (fun vs zs => vs ++ zs) := by
  obtain ⟨fd, F⟩ := T.dPicture_at
  obtain ⟨mv, B⟩ := F.kbinds0 (ps := ["self", "x", "y", "plane"]) 3 ["plane"] [] (fun us _ ws => us ++ ws) (by decide) (fun q h => by cases h) (fun r1 _ r3 => r1.append r3)
    (fun D doc pm an cdv ct us mv ws l1 l2 l3 => by
      match us, mv, ws, l1, l2, l3 with
      | [_, _, _], [], [_], _, _, _ => rfl)
  exact ⟨_, fd, _, _, T.cl_Picture, T.me_at, fn_at T F, B⟩
/-! == -/
def rowD (r : List Int) : PyData := .tuple (r.map PyData.int)
def planeD (p : List (List Int)) : PyData := .tuple (p.map rowD)
def planesD (pl : List (List (List Int))) : PyData := .tuple (pl.map planeD)
theorem dp_all {α : Type} {H : Hp} {f : α → PyData} : ∀ (l : List α) (as : List Addr), as.length = l.length → (∀ (i : Nat) x, l[i]? = some x → ∃ b, as[i]? = some b ∧ Dp K H (.ref b) (f x)) → DpAll K H (as.map V.ref) (l.map f)
  | [], [], _, _ => .nil
  | [], _ :: _, h, _ => by cases h
  | _ :: _, [], h, _ => by cases h
  | x :: l, a :: as, h, k => by
    obtain ⟨b, e1, e2⟩ := k 0 x rfl
    cases e1
    exact .cons e2 (dp_all l as (Nat.succ.inj h) fun i y e => k (i + 1) y e)
theorem dp_ints {H : Hp} : ∀ r : List Int, DpAll K H (r.map V.int) (r.map PyData.int)
  | [] => .nil
  | x :: r => .cons (.int x) (dp_ints r)
theorem dp_planes {H : Hp} {a : Addr} {pl : List (List (List Int))} (h : PlanesAt H a pl) : Dp K H (.ref a) (planesD pl) := by
  obtain ⟨as, ha, hl, hm⟩ := h
  refine .tup (SqT.of ha) (dp_all _ _ hl fun i p e => ?_)
  obtain ⟨b, e1, bs, hb, hbl, hbm⟩ := hm i p e
  refine ⟨b, e1, .tup (SqT.of hb) (dp_all _ _ hbl fun j r e' => ?_)⟩
  obtain ⟨c, e2, hc⟩ := hbm j r e'
  exact ⟨c, e2, .tup (SqT.of hc) (dp_ints r)⟩
theorem lay_all {α : Type} {f : α → PyData} (h : ∀ x, (f x).canLay0 = true) : ∀ l : List α, PyData.canLayAll0 (l.map f) = true
  | [] => by simp [PyData.canLayAll0]
  | x :: l => by
    rw [List.map_cons]
    simp [PyData.canLayAll0, h x, lay_all h l]
theorem depth_all {α : Type} {f : α → PyData} {n : Nat} (h : ∀ x, (f x).depth ≤ n) : ∀ l : List α, PyData.depthAll (l.map f) ≤ n
  | [] => by simp [PyData.depthAll]
  | x :: l => by
    rw [List.map_cons]
    have := depth_all h l
    have := h x
    simp only [PyData.depthAll]
    omega
theorem eqv_all {α : Type} {f : α → PyData} (h : ∀ x, PyData.eqv (f x) (f x) = true) : ∀ l : List α, PyData.eqvAll (l.map f) (l.map f) = true
  | [] => by simp [PyData.eqvAll]
  | x :: l => by
    rw [List.map_cons]
    simp [PyData.eqvAll, h x, eqv_all h l]
theorem int_lay (i : Int) : (PyData.int i).canLay0 = true := by simp [PyData.canLay0]
theorem int_eqv (i : Int) : PyData.eqv (.int i) (.int i) = true := by simp [PyData.eqv]
theorem row_lay (r : List Int) : (rowD r).canLay0 = true := by unfold rowD; simp only [PyData.canLay0]; exact lay_all int_lay r
theorem plane_lay (p : List (List Int)) : (planeD p).canLay0 = true := by unfold planeD; simp only [PyData.canLay0]; exact lay_all row_lay p
theorem planes_lay (p : List (List (List Int))) : (planesD p).canLay0 = true := by unfold planesD; simp only [PyData.canLay0]; exact lay_all plane_lay p
theorem row_depth (r : List Int) : (rowD r).depth ≤ 1 := by
  unfold rowD
  have := depth_all (f := PyData.int) (n := 0) (fun i => by simp [PyData.depth]) r
  simp only [PyData.depth]; omega
theorem plane_depth (p : List (List Int)) : (planeD p).depth ≤ 2 := by
  unfold planeD
  have := depth_all row_depth p
  simp only [PyData.depth]; omega
theorem planes_depth (p : List (List (List Int))) : (planesD p).depth ≤ 3 := by
  unfold planesD
  have := depth_all plane_depth p
  simp only [PyData.depth]; omega
theorem row_eqv (r : List Int) : PyData.eqv (rowD r) (rowD r) = true := by unfold rowD; simp only [PyData.eqv]; exact eqv_all int_eqv r
theorem plane_eqv (p : List (List Int)) : PyData.eqv (planeD p) (planeD p) = true := by unfold planeD; simp only [PyData.eqv]; exact eqv_all row_eqv p
theorem planes_eqv (p : List (List (List Int))) : PyData.eqv (planesD p) (planesD p) = true := by unfold planesD; simp only [PyData.eqv]; exact eqv_all plane_eqv p
def picD (p : Pic) : PyData := .tuple [planesD p.pl, .int p.left, .int p.up, .int p.depth]
theorem pic_shaped (p : Pic) : SeqAt.shaped (picD p) = true := by
  unfold SeqAt.shaped picD
  have := planes_depth p.pl
  rw [Bool.and_eq_true]
  refine ⟨by simp [PyData.canLay0, PyData.canLayAll0, planes_lay], decide_eq_true ?_⟩
  simp only [PyData.depth, PyData.depthAll]
  omega
theorem pic_eqv (p : Pic) : PyData.eqv (picD p) (picD p) = true := by
  unfold picD
  simp [PyData.eqv, PyData.eqvAll, planes_eqv]
theorem dp_pic {H : Hp} {t pa : Addr} {p : Pic} (h : PlanesAt H pa p.pl) (ht : H t = some (.tup [.ref pa, .int p.left, .int p.up, .int p.depth])) : Dp K H (.ref t) (picD p) :=
  .tup (SqT.of ht) (.cons (dp_planes h) (.cons (.int _) (.cons (.int _) (.cons (.int _) .nil))))
def spEqP (K : PySem.W.Frag) : Sp := fun vs H Q _ => ∃ a b, ∃ p : Pic, vs = [.ref a, .ref b] ∧ PicAt K H a p ∧ PicAt K H b p ∧ ∀ H', Same H H' → Q (.bl true) H'
theorem sc_Picture_eq : FnScope ["self", "other", "mine"] ["self", "other"] (defScope sPicture_eq) := ⟨rfl, rfl, rfl, by decide +kernel, rfl, by decide +kernel, by decide +kernel⟩
theorem ok_eq (T : Fx K mg w) : Met P w K mg base 1 (He.ga K "Picture") "__eq__" (spEqP K) := by
  obtain ⟨fd, F⟩ := T.dPicture_eq
  refine met_of T.cl_Picture T.me_eq F sc_Picture_eq (fun _ _ _ _ _ _ us hl => match us, hl with | [_, _], _ => rfl) (fun vs H Q E h => ?_) (fun cdv A outer s H vs Q E hr h => ?_)
  · obtain ⟨a, b, p, rfl, _⟩ := h
    rfl
  · refine ⟨_, (pss_cons (ps_if (pt_not (pt_val (pe_callB (id := "isinstance") (C8.call_isC T.pic) (by rfl) T.f_isinstance (by decide +kernel) (pa_cons (pv 1) (pa_cons (C8.pe_gc rfl T.c_Picture) pa_nil))))) (pss_one (ps_ret pe_bl)) pss_nil)
      (pss_cons (ps_set (i := 2) sc_Picture_eq.nd rfl (Or.inl rfl) (pe_tup (pa_cons (pe_fld (pv 0) rfl) (pa_cons (pe_fld (pv 0) rfl) (pa_cons (pe_fld (pv 0) rfl) (pa_cons (pe_fld (pv 0) rfl) pa_nil))))))
      (pss_one (ps_ret (pe_cmpR (op_eqD hr.units) (pv 2) (pe_tup (pa_cons (pe_fld (pv 1) rfl) (pa_cons (pe_fld (pv 1) rfl) (pa_cons (pe_fld (pv 1) rfl) (pa_cons (pe_fld (pv 1) rfl) pa_nil))))) (nomark _)))))), ?_⟩
    obtain ⟨a, b, p, rfl, ⟨dx, pa, ha, hp⟩, ⟨dy, pb, hb, hpb⟩, q⟩ := h
    refine ⟨_, rfl, b, dy, _, rfl, hb, true, rfl, iteF ?_⟩
    refine ⟨_, rfl, _, _, _, _, _, rfl, (ha), T.cl_Picture, T.na_planes, rfl, _, rfl, _, _, _, _, _, rfl, (ha), T.cl_Picture, T.na_left, rfl, _, rfl, _, _, _, _, _, rfl, (ha), T.cl_Picture, T.na_up, rfl, _, rfl, _, _, _, _, _, rfl, (ha), T.cl_Picture, T.na_depth, rfl, (by rw [sizeLine_eq]; exact Nat.le_of_ble_eq_true rfl), fun t ht => ?_⟩
    have s1 := Same.new (o := .tup [.ref pa, .int p.left, .int p.up, .int p.depth]) ht
    have hb1 := s1 _ _ hb
    refine ⟨_, rfl, _, rfl, _, _, _, _, _, rfl, (hb1), T.cl_Picture, T.na_planes, rfl, _, rfl, _, _, _, _, _, rfl, (hb1), T.cl_Picture, T.na_left, rfl, _, rfl, _, _, _, _, _, rfl, (hb1), T.cl_Picture, T.na_up, rfl, _, rfl, _, _, _, _, _, rfl, (hb1), T.cl_Picture, T.na_depth, rfl, (by rw [sizeLine_eq]; exact Nat.le_of_ble_eq_true rfl), fun t2 ht2 => ?_⟩
    have s2 := Same.new (o := .tup [.ref pb, .int p.left, .int p.up, .int p.depth]) ht2
    have s3 := s1.trans s2
    refine ⟨picD p, picD p, dp_pic (PlanesAt.mono hp (TupS.of s3)) (s2 _ _ upd_same), dp_pic (PlanesAt.mono hpb (TupS.of s3)) upd_same, pic_shaped p, pic_shaped p, ?_⟩
    rw [pic_eqv]
    exact q _ s3
end
end K22
end
section
/-! ### stages: makers, sources, borders -/
namespace K22
open PySem PySem.Spec PyProof.Rows L2 LamX
section
variable {P : Program} {w : World} {K : PySem.W.Frag} {mg : Str → Option Value} {base : Heap}
/-! makers -/
def spMk2 (z : Str) : Sp := fun vs H Q _ => ∃ x y, vs = [x, y] ∧ ∀ t, H t = none → Q (.ref t) (upd H t (.tup [.str z, x, y]))
def spMk3 (z : Str) : Sp := fun vs H Q _ => ∃ x y u, vs = [x, y, u] ∧ ∀ t, H t = none → Q (.ref t) (upd H t (.tup [.str z, x, y, u]))
theorem sc_source : FnScope ["picture", "border"] ["picture", "border"] (defScope s_source) := ⟨rfl, rfl, rfl, by decide +kernel, rfl, by decide +kernel, by decide +kernel⟩
theorem ok_source (T : Fx K mg w) : CalN P w K mg base 1 "source" (spMk2 "source") 1 ["border"] (fun vs zs => vs ++ zs) := by
  obtain ⟨⟨fd, F⟩, hm⟩ := T.d_source
  have Fo : FnOk P w K mg base CX0 1 (He.ga K "source") fd ["picture", "border"] (spMk2 "source") := by
    refine fn_kw F sc_source (fun vs H Q E h => ?_) (fun cdv A outer s H vs Q E hr h => ?_)
    · obtain ⟨x, y, rfl, _⟩ := h
      rfl
    · refine ⟨_, (pss_one (ps_ret (pe_tup (pa_cons pe_str (pa_cons (pv 0) (pa_cons (pv 1) pa_nil)))))), ?_⟩
      obtain ⟨x, y, rfl, q⟩ := h
      exact ⟨_, rfl, _, rfl, (by rw [sizeLine_eq]; exact Nat.le_of_ble_eq_true rfl), q⟩
  obtain ⟨mv, B⟩ := F.kbinds0 (ps := ["picture", "border"]) 1 ["border"] [] (fun us _ ws => us ++ ws) (by decide) (fun q h => by cases h) (fun r1 _ r3 => r1.append r3)
    (fun D doc pm an cdv ct us mv ws l1 l2 l3 => by
      match us, mv, ws, l1, l2, l3 with
      | [_], [], [_], _, _, _ => rfl)
  exact ⟨fd, _, _, Fo, hm, F.kp, B⟩
theorem sc_curved : FnScope ["of", "table", "depth"] ["of", "table", "depth"] (defScope s_curved) := ⟨rfl, rfl, rfl, by decide +kernel, rfl, by decide +kernel, by decide +kernel⟩
theorem fn_curved {fd : FuncData} (F : FunD K "curved" "curved" (defArgs s_curved) (defBody s_curved) (defScope s_curved) [] [("depth", V.non)] (He.ga K "curved") fd) : FnOk P w K mg base CX0 1 (He.ga K "curved") fd ["of", "table", "depth"] (spMk3 "curved") := by
  refine fn_kw F sc_curved (fun vs H Q E h => ?_) (fun cdv A outer s H vs Q E hr h => ?_)
  · obtain ⟨x, y, u, rfl, _⟩ := h
    rfl
  · refine ⟨_, (pss_one (ps_ret (pe_tup (pa_cons pe_str (pa_cons (pv 0) (pa_cons (pv 1) (pa_cons (pv 2) pa_nil))))))), ?_⟩
    obtain ⟨x, y, u, rfl, q⟩ := h
    exact ⟨_, rfl, _, rfl, _, rfl, (by rw [sizeLine_eq]; exact Nat.le_of_ble_eq_true rfl), q⟩
theorem ok_curved (T : Fx K mg w) : Cal P w K mg base 1 "curved" (spMk3 "curved") [.non] := by
  obtain ⟨⟨fd, F⟩, hm⟩ := T.d_curved
  obtain ⟨ds, hv, B⟩ := F.binds0 (ps := ["of", "table", "depth"]) 2 (by decide) rfl (fun D doc pm an cdv ct us ks l1 l2 => by
      match us, ks, l1, l2 with
      | [_, _], [_], _, _ => exact ⟨_, _, _, _, _, _, rfl, rfl, rfl⟩)
  exact ⟨fd, _, ds, fn_curved F, hm, F.kp, B, hv⟩
theorem sc_ranked : FnScope ["of", "form", "rank"] ["of", "form", "rank"] (defScope s_ranked) := ⟨rfl, rfl, rfl, by decide +kernel, rfl, by decide +kernel, by decide +kernel⟩
theorem fn_ranked {fd : FuncData} (F : FunD K "ranked" "ranked" (defArgs s_ranked) (defBody s_ranked) (defScope s_ranked) [] [("rank", V.int 0)] (He.ga K "ranked") fd) : FnOk P w K mg base CX0 1 (He.ga K "ranked") fd ["of", "form", "rank"] (spMk3 "ranked") := by
  refine fn_kw F sc_ranked (fun vs H Q E h => ?_) (fun cdv A outer s H vs Q E hr h => ?_)
  · obtain ⟨x, y, u, rfl, _⟩ := h
    rfl
  · refine ⟨_, (pss_one (ps_ret (pe_tup (pa_cons pe_str (pa_cons (pv 0) (pa_cons (pv 1) (pa_cons (pv 2) pa_nil))))))), ?_⟩
    obtain ⟨x, y, u, rfl, q⟩ := h
    exact ⟨_, rfl, _, rfl, _, rfl, (by rw [sizeLine_eq]; exact Nat.le_of_ble_eq_true rfl), q⟩
theorem ok_ranked (T : Fx K mg w) : Cal P w K mg base 1 "ranked" (spMk3 "ranked") [.int 0] := by
  obtain ⟨⟨fd, F⟩, hm⟩ := T.d_ranked
  obtain ⟨ds, hv, B⟩ := F.binds0 (ps := ["of", "form", "rank"]) 2 (by decide) rfl (fun D doc pm an cdv ct us ks l1 l2 => by
      match us, ks, l1, l2 with
      | [_, _], [_], _, _ => exact ⟨_, _, _, _, _, _, rfl, rfl, rfl⟩)
  exact ⟨fd, _, ds, fn_ranked F, hm, F.kp, B, hv⟩
theorem ok_ranked_rank (T : Fx K mg w) : CalN P w K mg base 1 "ranked" (spMk3 "ranked") 2 ["rank"] (fun vs zs => vs ++ zs) := by
  obtain ⟨⟨fd, F⟩, hm⟩ := T.d_ranked
  obtain ⟨mv, B⟩ := F.kbinds0 (ps := ["of", "form", "rank"]) 2 ["rank"] [] (fun us _ ws => us ++ ws) (by decide) (fun q h => by cases h) (fun r1 _ r3 => r1.append r3)
    (fun D doc pm an cdv ct us mv ws l1 l2 l3 => by
      match us, mv, ws, l1, l2, l3 with
      | [_, _], [], [_], _, _, _ => rfl)
  exact ⟨fd, _, _, fn_ranked F, hm, F.kp, B⟩
/-! borders -/
def BdS (z : Str) : Prop := z = "near" ∨ z = "wrapped" ∨ z = "mirrored"
def OkBd (b : V) (d : Int) : Prop := (∃ z, b = .str z ∧ BdS z) ∨ ∃ i, b = .int i ∧ 0 ≤ i ∧ i ≤ d
def spBorder : Sp := fun vs H Q _ => ∃ b, vs = [b] ∧ OkBd b 65535 ∧ Q (.bl true) H
theorem sc_is_border : FnScope ["thing"] ["thing"] (defScope s_is_border) := ⟨rfl, rfl, rfl, by decide +kernel, rfl, by decide +kernel, by decide +kernel⟩
theorem ok_is_border (T : Fx K mg w) : Cal P w K mg base 3 "is_border" spBorder [] := by
  have c_is_from : Cal P w K mg base 2 "is_from" spFrom [] := ok_is_from T
  refine cal_of T.d_is_border sc_is_border (fun _ _ _ _ _ _ us hl => match us, hl with | [_], _ => rfl) (fun vs H Q E h => ?_) (fun cdv A outer s H vs Q E hr h => ?_)
  · obtain ⟨b, rfl, _⟩ := h
    rfl
  · refine ⟨_, (pss_one (ps_ret (pe_or (pe_c c_is_from hr (by omega) rfl (pa_cons (pv 0) (pa_cons pe_int (pa_cons (C8.pe_gc rfl T.g_DEEPEST) pa_nil)))) (pe_one (pe_and (pe_callB (id := "isinstance") (cr_isiK (K := K) rfl) (by rfl) T.f_isinstance (by decide +kernel) (pa_cons (pv 0) (pa_cons (pe_bltn (v := .ty "str") (by rfl) T.f_str (by decide +kernel) rfl) pa_nil))) (pe_one (pe_cmpR (op_in_seqK (K := K) rfl) (pv 0) (C8.pe_gc rfl T.c_BORDERS) (by rfl)))))))), ?_⟩
    obtain ⟨b, rfl, O, q⟩ := h
    rcases O with ⟨z, rfl, O⟩ | ⟨i, rfl, i1, i2⟩
    · refine ⟨_, rfl, Or.inr ⟨z, _, _, rfl, false, rfl, iteF ?_⟩⟩
      refine ⟨_, rfl, .str _, .ty "str", .type "str", .type "str", true, rfl, .ty _, .base (.str _), kit_ty (by decide +kernel), true, rfl, iteT ?_⟩
      refine ⟨_, rfl, _, _, rfl, Or.inr (T.BORDERS_ H), rfl, rfl, ?_⟩
      rcases O with rfl | rfl | rfl
      · exact q
      · exact q
      · exact q
    · exact ⟨_, rfl, Or.inl ⟨i, _, _, rfl, i1, i2, true, rfl, iteT q⟩⟩
/-! folded_one -/
def foldV (z : Str) (f m p : Int) : Int :=
  if z = "near" then f + (if m - 1 < (if 0 > p - f then 0 else p - f) then m - 1 else (if 0 > p - f then 0 else p - f))
  else if z = "wrapped" then f + (p - f) % m
  else f + (if 2 * m - 1 - (p - f) % (2 * m) < (p - f) % (2 * m) then 2 * m - 1 - (p - f) % (2 * m) else (p - f) % (2 * m))
theorem foldV_rng (z : Str) {f m p : Int} (hm : 1 ≤ m) : f ≤ foldV z f m p ∧ foldV z f m p < f + m := by
  unfold foldV
  have a1 := Int.emod_nonneg (p - f) (show m ≠ 0 by omega)
  have a2 := Int.emod_lt_of_pos (p - f) (show 0 < m by omega)
  have a3 := Int.emod_nonneg (p - f) (show 2 * m ≠ 0 by omega)
  have a4 := Int.emod_lt_of_pos (p - f) (show 0 < 2 * m by omega)
  generalize (p - f) % (2 * m) = r at *
  generalize (p - f) % m = r2 at *
  split
  · split <;> split <;> omega
  · split
    · omega
    · split <;> omega
def spFold1 : Sp := fun vs H Q _ => ∃ z f m p, vs = [.str z, .int f, .int m, .int p] ∧ 1 ≤ m ∧ Q (.int (foldV z f m p)) H
theorem sc_folded_one : FnScope ["border", "first", "many", "place", "far", "rest"] ["border", "first", "many", "place"] (defScope s_folded_one) := ⟨rfl, rfl, rfl, by decide +kernel, rfl, by decide +kernel, by decide +kernel⟩
theorem ok_folded_one (T : Fx K mg w) : Cal P w K mg base 1 "folded_one" spFold1 [] := by
  refine cal_of T.d_folded_one sc_folded_one (fun _ _ _ _ _ _ us hl => match us, hl with | [_, _, _, _], _ => rfl) (fun vs H Q E h => ?_) (fun cdv A outer s H vs Q E hr h => ?_)
  · obtain ⟨z, f, m, p, rfl, _⟩ := h
    rfl
  · refine ⟨_, (pss_cons (ps_set (i := 4) sc_folded_one.nd rfl (Or.inl rfl) (pe_op op_sub (pv 3) (pv 1)))
      (pss_cons (ps_if (pt_cmpR op_eq (pv 0) (C8.pe_gc rfl T.g_NEAR) (nomark _)) (pss_one (ps_ret (pe_op op_add (pv 1) (pe_callB (id := "min") (call_min2 rfl) (by rfl) T.f_min (by decide +kernel) (pa_cons (pe_callB (id := "max") (call_max2 rfl) (by rfl) T.f_max (by decide +kernel) (pa_cons (pv 4) (pa_cons pe_int pa_nil))) (pa_cons (pe_op op_sub (pv 2) pe_int) pa_nil)))))) pss_nil)
      (pss_cons (ps_if (pt_cmpR op_eq (pv 0) (C8.pe_gc rfl T.g_WRAPPED) (nomark _)) (pss_one (ps_ret (pe_op op_add (pv 1) (pe_op op_mod (pv 4) (pv 2))))) pss_nil)
      (pss_cons (ps_set (i := 5) sc_folded_one.nd rfl (Or.inl rfl) (pe_op op_mod (pv 4) (pe_op op_mul pe_int (pv 2))))
      (pss_one (ps_ret (pe_op op_add (pv 1) (pe_callB (id := "min") (call_min2 rfl) (by rfl) T.f_min (by decide +kernel) (pa_cons (pv 5) (pa_cons (pe_op op_sub (pe_op op_sub (pe_op op_mul pe_int (pv 2)) pe_int) (pv 5)) pa_nil)))))))))), ?_⟩
    obtain ⟨z, f, m, p, rfl, hm, q⟩ := h
    refine ⟨_, rfl, _, rfl, _, _, rfl, rfl, _, rfl, rfl, _, rfl, ?_⟩
    by_cases c1 : z = "near"
    · subst c1
      refine if_B (by simp) ?_
      refine ⟨_, rfl, _, rfl, _, _, rfl, _, rfl, _, _, rfl, rfl, _, _, rfl, _, _, rfl, rfl, ?_⟩
      exact q
    refine if_Bf (by simp [c1]) ?_
    refine ⟨_, rfl, rfl, _, rfl, ?_⟩
    by_cases c2 : z = "wrapped"
    · subst c2
      refine if_B (by simp) ?_
      refine ⟨_, rfl, _, rfl, _, rfl, _, _, rfl, rfl, (by omega), _, _, rfl, rfl, ?_⟩
      exact q
    refine if_Bf (by simp [c2]) ?_
    unfold foldV at q
    rw [if_neg c1, if_neg c2] at q
    have two : CMul 2 m := Or.inl ⟨by decide, by decide⟩
    refine ⟨_, rfl, _, rfl, _, _, rfl, rfl, two, _, _, rfl, rfl, (by omega), ?_⟩
    refine ⟨_, rfl, _, rfl, _, rfl, _, _, rfl, rfl, two, _, _, rfl, rfl, _, rfl, _, _, rfl, rfl, _, _, rfl, _, _, rfl, rfl, ?_⟩
    exact q
/-! folded -/
def foldC (b : V) (l u wd hg x y : Int) : Option (Int × Int) :=
  if l ≤ x ∧ x < l + wd ∧ u ≤ y ∧ y < u + hg then some (x, y) else
    match b with
    | .str z => some (foldV z l wd x, foldV z u hg y)
    | _ => none
theorem foldC_rng {b : V} {l u wd hg x y : Int} {c : Int × Int} (h : foldC b l u wd hg x y = some c) (h1 : 1 ≤ wd) (h2 : 1 ≤ hg) : l ≤ c.1 ∧ c.1 < l + wd ∧ u ≤ c.2 ∧ c.2 < u + hg := by
  unfold foldC at h
  split at h
  · cases h
    assumption
  · split at h
    · rename_i z
      cases h
      have a := foldV_rng z (f := l) (p := x) h1
      have b := foldV_rng z (f := u) (p := y) h2
      exact ⟨a.1, a.2, b.1, b.2⟩
    · cases h
def spFolded : Sp := fun vs H Q _ => ∃ b a l u wd hg x y d, vs = [b, .ref a, .int x, .int y] ∧ H a = some (.tup [.int l, .int u, .int wd, .int hg]) ∧ OkBd b d ∧ 1 ≤ wd ∧ 1 ≤ hg ∧
  (foldC b l u wd hg x y = none → Q .non H) ∧ ∀ c, foldC b l u wd hg x y = some c → ∀ t, H t = none → Q (.ref t) (upd H t (.tup [.int c.1, .int c.2]))
theorem sc_folded : FnScope ["border", "window", "x", "y", "left", "up", "wide", "high"] ["border", "window", "x", "y"] (defScope s_folded) := ⟨rfl, rfl, rfl, by decide +kernel, rfl, by decide +kernel, by decide +kernel⟩
theorem ok_folded (T : Fx K mg w) : Cal P w K mg base 2 "folded" spFolded [] := by
  have c_lies_in : Cal P w K mg base 1 "lies_in" spLies [] := ok_lies_in T
  have c_folded_one : Cal P w K mg base 1 "folded_one" spFold1 [] := ok_folded_one T
  refine cal_of T.d_folded sc_folded (fun _ _ _ _ _ _ us hl => match us, hl with | [_, _, _, _], _ => rfl) (fun vs H Q E h => ?_) (fun cdv A outer s H vs Q E hr h => ?_)
  · obtain ⟨b, a, l, u, wd, hg, x, y, d, rfl, _⟩ := h
    rfl
  · refine ⟨_, (pss_cons (ps_if (pt_val (pe_c c_lies_in hr (by omega) rfl (pa_cons (pv 1) (pa_cons (pv 2) (pa_cons (pv 3) pa_nil))))) (pss_one (ps_ret (pe_tup (pa_cons (pv 2) (pa_cons (pv 3) pa_nil))))) pss_nil)
      (pss_cons (ps_if (pt_not (pt_val (pe_callB (id := "isinstance") (cr_isiK (K := K) rfl) (by rfl) T.f_isinstance (by decide +kernel) (pa_cons (pv 0) (pa_cons (pe_bltn (v := .ty "str") (by rfl) T.f_str (by decide +kernel) rfl) pa_nil))))) (pss_one (ps_ret pe_non)) pss_nil)
      (pss_cons (ps_asg (pv 1) (pg_tupK (K := K) (n := 4) rfl rfl (pgs_cons (pg_name (i := 4) sc_folded.nd rfl (Or.inl rfl)) (pgs_cons (pg_name (i := 5) sc_folded.nd rfl (Or.inl rfl)) (pgs_cons (pg_name (i := 6) sc_folded.nd rfl (Or.inl rfl)) (pgs_cons (pg_name (i := 7) sc_folded.nd rfl (Or.inl rfl)) pgs_nil))))))
      (pss_one (ps_ret (pe_tup (pa_cons (pe_c c_folded_one hr (by omega) rfl (pa_cons (pv 0) (pa_cons (pv 4) (pa_cons (pv 6) (pa_cons (pv 2) pa_nil))))) (pa_cons (pe_c c_folded_one hr (by omega) rfl (pa_cons (pv 0) (pa_cons (pv 5) (pa_cons (pv 7) (pa_cons (pv 3) pa_nil))))) pa_nil)))))))), ?_⟩
    obtain ⟨b, a, l, u, wd, hg, x, y, d, rfl, ha, O, w1, h1, q1, q2⟩ := h
    refine ⟨_, rfl, _, rfl, _, rfl, a, l, u, wd, hg, x, y, rfl, ha, ?_⟩
    unfold foldC at q1 q2
    by_cases c : l ≤ x ∧ x < l + wd ∧ u ≤ y ∧ y < u + hg
    · refine ⟨_, rfl, if_true c ?_⟩
      refine ⟨_, rfl, _, rfl, (by rw [sizeLine_eq]; exact Nat.le_of_ble_eq_true rfl), ?_⟩
      exact q2 (x, y) (by rw [if_pos c])
    refine ⟨_, rfl, if_false c ?_⟩
    rw [if_neg c] at q1
    simp only [if_neg c] at q2
    rcases O with ⟨z, rfl, O⟩ | ⟨i, rfl, i1, i2⟩
    · refine ⟨_, rfl, .str _, .ty "str", .type "str", .type "str", true, rfl, .ty _, .base (.str _), kit_ty (by decide +kernel), true, rfl, iteF ?_⟩
      refine ⟨_, rfl, _, _, rfl, SqT.of (ha), rfl, _, _, rfl, _, _, rfl, _, _, rfl, _, _, rfl, rfl, ?_⟩
      refine ⟨_, rfl, _, rfl, _, rfl, _, rfl, z, l, wd, x, rfl, w1, ?_⟩
      refine ⟨_, rfl, _, rfl, _, rfl, _, rfl, z, u, hg, y, rfl, h1, ?_⟩
      exact ⟨(by rw [sizeLine_eq]; exact Nat.le_of_ble_eq_true rfl), q2 _ rfl⟩
    · refine ⟨_, rfl, .int _, .ty "str", .type "int", .type "str", false, rfl, .ty _, .base (.int _), kit_ty (by decide +kernel), false, rfl, ?_⟩
      exact q1 rfl
/-! must_fit_border, is_source -/
def spFit : Sp := fun vs H Q _ => ∃ b d, vs = [b, .int d] ∧ OkBd b d ∧ Q .non H
theorem sc_must_fit_border : FnScope ["border", "depth"] ["border", "depth"] (defScope s_must_fit_border) := ⟨rfl, rfl, rfl, by decide +kernel, rfl, by decide +kernel, by decide +kernel⟩
theorem ok_must_fit_border (T : Fx K mg w) : Cal P w K mg base 1 "must_fit_border" spFit [] := by
  refine cal_of T.d_must_fit_border sc_must_fit_border (fun _ _ _ _ _ _ us hl => match us, hl with | [_, _], _ => rfl) (fun vs H Q E h => ?_) (fun cdv A outer s H vs Q E hr h => ?_)
  · obtain ⟨b, d, rfl, _⟩ := h
    rfl
  · refine ⟨_, (pss_one (ps_if (PW.pt (pw_and (pt_not (pt_val (pe_callB (id := "isinstance") (cr_isiK (K := K) rfl) (by rfl) T.f_isinstance (by decide +kernel) (pa_cons (pv 0) (pa_cons (pe_bltn (v := .ty "str") (by rfl) T.f_str (by decide +kernel) rfl) pa_nil))))) (pw_and1 (pt_cmpR op_gt (pv 0) (pv 1) (nomark _))))) pss_never pss_nil)), ?_⟩
    obtain ⟨b, d, rfl, O, q⟩ := h
    rcases O with ⟨z, rfl, O⟩ | ⟨i, rfl, i1, i2⟩
    · exact ⟨_, rfl, .str _, .ty "str", .type "str", .type "str", true, rfl, .ty _, .base (.str _), kit_ty (by decide +kernel), true, rfl, q⟩
    · refine ⟨_, rfl, .int _, .ty "str", .type "int", .type "str", false, rfl, .ty _, .base (.int _), kit_ty (by decide +kernel), false, rfl, ?_⟩
      refine ⟨_, rfl, _, rfl, i, d, rfl, rfl, _, rfl, ?_⟩
      exact if_false (by omega) q
structure SrcAt (K : PySem.W.Frag) (H : Hp) (a : Addr) (p : Pic) (b : V) : Prop where
  ex : ∃ pa, H a = some (.tup [.str "source", .ref pa, b]) ∧ PicAt K H pa p
theorem SrcAt.mono {K : PySem.W.Frag} {H H' : Hp} {a : Addr} {p : Pic} {b : V} (h : SrcAt K H a p b) (k : Kp K H H') : SrcAt K H' a p b := by
  obtain ⟨pa, h1, h2⟩ := h.ex
  exact ⟨pa, k.tups _ _ h1, h2.mono k⟩
def spIsSource (K : PySem.W.Frag) : Sp := fun vs H Q _ => ∃ a b, ∃ p : Pic, vs = [.ref a] ∧ SrcAt K H a p b ∧ OkBd b 65535 ∧ Q (.bl true) H
theorem sc_is_source : FnScope ["stage"] ["stage"] (defScope s_is_source) := ⟨rfl, rfl, rfl, by decide +kernel, rfl, by decide +kernel, by decide +kernel⟩
theorem ok_is_source (T : Fx K mg w) : Cal P w K mg base 4 "is_source" (spIsSource K) [] := by
  have c_is_border : Cal P w K mg base 3 "is_border" spBorder [] := ok_is_border T
  refine cal_of T.d_is_source sc_is_source (fun _ _ _ _ _ _ us hl => match us, hl with | [_], _ => rfl) (fun vs H Q E h => ?_) (fun cdv A outer s H vs Q E hr h => ?_)
  · obtain ⟨a, b, p, rfl, _⟩ := h
    rfl
  · refine ⟨_, (pss_one (ps_ret (pe_and (pe_callB (id := "isinstance") (C8.call_isC T.pic) (by rfl) T.f_isinstance (by decide +kernel) (pa_cons (pe_ix (ix_tupK (K := K) rfl) (pv 0) pe_int (fun _ _ => rfl)) (pa_cons (C8.pe_gc rfl T.c_Picture) pa_nil))) (pe_one (pe_c c_is_border hr (by omega) rfl (pa_cons (pe_ix (ix_tupK (K := K) rfl) (pv 0) pe_int (fun _ _ => rfl)) pa_nil)))))), ?_⟩
    obtain ⟨a, b, p, rfl, ⟨pa, ha, dx, pl, hpa, _⟩, O, q⟩ := h
    refine ⟨_, rfl, _, _, _, _, rfl, rfl, SqT.of (ha), atI_nat (j := 1) rfl, pa, dx, _, rfl, hpa, true, rfl, iteT ?_⟩
    exact ⟨_, rfl, _, _, _, _, rfl, rfl, SqT.of (ha), atI_nat (j := 2) rfl, b, rfl, O, q⟩
/-- a shape -/
def ShpAt (H : Hp) (t : Addr) (np : Nat) (d : Int) : Prop := H t = some (.tup [.int np, .int d])
def spShapeSrc (K : PySem.W.Frag) : Sp := fun vs H Q _ => ∃ a b np wd hg s, ∃ p : Pic, vs = [.ref a, s] ∧ SrcAt K H a p b ∧ OkPl np wd hg p.depth p.pl ∧ OkBd b p.depth ∧ ∀ t, H t = none → Q (.ref t) (upd H t (.tup [.int np, .int p.depth]))
theorem sc_shape_of_source : FnScope ["stage", "shapes"] ["stage", "shapes"] (defScope s_shape_of_source) := ⟨rfl, rfl, rfl, by decide +kernel, rfl, by decide +kernel, by decide +kernel⟩
theorem ok_shape_of_source (T : Fx K mg w) : Cal P w K mg base 2 "shape_of_source" (spShapeSrc K) [] := by
  have c_must_fit_border : Cal P w K mg base 1 "must_fit_border" spFit [] := ok_must_fit_border T
  refine cal_of T.d_shape_of_source sc_shape_of_source (fun _ _ _ _ _ _ us hl => match us, hl with | [_, _], _ => rfl) (fun vs H Q E h => ?_) (fun cdv A outer s H vs Q E hr h => ?_)
  · obtain ⟨a, b, np, wd, hg, s, p, rfl, _⟩ := h
    rfl
  · refine ⟨_, (pss_cons (ps_expr (pe_c c_must_fit_border hr (by omega) rfl (pa_cons (pe_ix (ix_tupK (K := K) rfl) (pv 0) pe_int (fun _ _ => rfl)) (pa_cons (pe_fld (pe_ix (ix_tupK (K := K) rfl) (pv 0) pe_int (fun _ _ => rfl)) rfl) pa_nil))))
      (pss_one (ps_ret (pe_tup (pa_cons (pe_callB (id := "len") (cr_lenK (K := K) rfl) (by rfl) T.f_len (by decide +kernel) (pa_cons (pe_fld (pe_ix (ix_tupK (K := K) rfl) (pv 0) pe_int (fun _ _ => rfl)) rfl) pa_nil)) (pa_cons (pe_fld (pe_ix (ix_tupK (K := K) rfl) (pv 0) pe_int (fun _ _ => rfl)) rfl) pa_nil)))))), ?_⟩
    obtain ⟨a, b, np, wd, hg, s, p, rfl, ⟨pa, ha, dx, pl, hpa, hpl⟩, Op, O, q⟩ := h
    refine ⟨_, rfl, _, _, _, _, rfl, rfl, SqT.of (ha), atI_nat (j := 2) rfl, _, rfl, _, _, _, _, rfl, rfl, SqT.of (ha), atI_nat (j := 1) rfl, _, _, _, _, _, rfl, (hpa), T.cl_Picture, T.na_depth, rfl, b, _, rfl, O, ?_⟩
    obtain ⟨as, e1, e2, _⟩ := hpl
    refine ⟨_, rfl, _, _, _, _, rfl, rfl, SqT.of (ha), atI_nat (j := 1) rfl, _, _, _, _, _, rfl, (hpa), T.cl_Picture, T.na_planes, rfl, .ref _, _, rfl, Or.inr ⟨_, SqT.of (e1), rfl⟩, _, rfl, _, _, _, _, rfl, rfl, SqT.of (ha), atI_nat (j := 1) rfl, _, _, _, _, _, rfl, (hpa), T.cl_Picture, T.na_depth, rfl, (by rw [sizeLine_eq]; exact Nat.le_of_ble_eq_true rfl), fun t ht => ?_⟩
    rw [List.length_map, e2, Op.n]
    exact q t ht
/-! tell_source -/
def bdI : V → Int
  | .int i => i
  | _ => 0
def srcV (wd hg : Nat) (p : Pic) (b : V) (x y : Int) (k : Nat) : Int :=
  match foldC b p.left p.up wd hg x y with
  | none => bdI b
  | some c => pget p.pl k (c.2 - p.up).toNat (c.1 - p.left).toNat
theorem srcV_rng {np wd hg : Nat} {p : Pic} {b : V} {x y : Int} {k : Nat} (O : OkPl np wd hg p.depth p.pl) (B : OkBd b p.depth) (hk : k < np) : 0 ≤ srcV wd hg p b x y k ∧ srcV wd hg p b x y k ≤ p.depth := by
  unfold srcV
  have w1 := O.w1
  have h1 := O.h1
  cases e : foldC b p.left p.up wd hg x y with
  | none =>
    rcases B with ⟨z, rfl, _⟩ | ⟨i, rfl, i1, i2⟩
    · unfold foldC at e
      split at e <;> cases e
    · exact ⟨i1, i2⟩
  | some c =>
    obtain ⟨c1, c2, c3, c4⟩ := foldC_rng e (by omega) (by omega)
    exact pget_rng O hk (by omega) (by omega)
def spTellSrc (K : PySem.W.Frag) : Sp := fun vs H Q _ => ∃ a b np wd hg s f x y, ∃ k : Nat, ∃ p : Pic, vs = [.ref a, s, f, .int x, .int y, .int k] ∧ SrcAt K H a p b ∧ OkPl np wd hg p.depth p.pl ∧ OkBd b p.depth ∧ k < np ∧ ∀ H', Same H H' → Q (.int (srcV wd hg p b x y k)) H'
theorem sc_tell_source : FnScope ["stage", "shapes", "look", "x", "y", "plane", "picture", "cell"] ["stage", "shapes", "look", "x", "y", "plane"] (defScope s_tell_source) := ⟨rfl, rfl, rfl, by decide +kernel, rfl, by decide +kernel, by decide +kernel⟩
theorem ok_tell_source (T : Fx K mg w) : Cal P w K mg base 3 "tell_source" (spTellSrc K) [] := by
  have c_folded : Cal P w K mg base 2 "folded" spFolded [] := ok_folded T
  have c_window : Met P w K mg base 1 (He.ga K "Picture") "window" (spWin K) := ok_window T
  refine cal_of T.d_tell_source sc_tell_source (fun _ _ _ _ _ _ us hl => match us, hl with | [_, _, _, _, _, _], _ => rfl) (fun vs H Q E h => ?_) (fun cdv A outer s H vs Q E hr h => ?_)
  · obtain ⟨a, b, np, wd, hg, s, f, x, y, k, p, rfl, _⟩ := h
    rfl
  · refine ⟨_, (pss_cons (ps_set (i := 6) sc_tell_source.nd rfl (Or.inl rfl) (pe_ix (ix_tupK (K := K) rfl) (pv 0) pe_int (fun _ _ => rfl)))
      (pss_cons (ps_set (i := 7) sc_tell_source.nd rfl (Or.inl rfl) (pe_c c_folded hr (by omega) rfl (pa_cons (pe_ix (ix_tupK (K := K) rfl) (pv 0) pe_int (fun _ _ => rfl)) (pa_cons (pe_mt0 c_window hr (by omega) (pv 6)) (pa_cons (pv 3) (pa_cons (pv 4) pa_nil))))))
      (pss_cons (ps_if (pt_cmpR op_isN (pv 7) pe_non (nomark _)) (pss_one (ps_ret (pe_ix (ix_tupK (K := K) rfl) (pv 0) pe_int (fun _ _ => rfl)))) pss_nil)
      (pss_one (ps_ret (pe_ix (ix_tupK (K := K) rfl) (pe_ix (ix_tupK (K := K) rfl) (pe_ix (ix_tupK (K := K) rfl) (pe_fld (pv 6) rfl) (pv 5) (fun _ _ => rfl)) (pe_op op_sub (pe_ix (ix_tupK (K := K) rfl) (pv 7) pe_int (fun _ _ => rfl)) (pe_fld (pv 6) rfl)) (fun _ _ => rfl)) (pe_op op_sub (pe_ix (ix_tupK (K := K) rfl) (pv 7) pe_int (fun _ _ => rfl)) (pe_fld (pv 6) rfl)) (fun _ _ => rfl))))))), ?_⟩
    obtain ⟨a, b, np, wd, hg, s, f, x, y, k, p, rfl, ⟨pa, ha, hpic⟩, Op, O, hk, q⟩ := h
    obtain ⟨dx, pl, hpa, hpl⟩ := id hpic
    have w1 := Op.w1
    have h1 := Op.h1
    refine ⟨_, rfl, _, _, _, _, rfl, rfl, SqT.of (ha), atI_nat (j := 1) rfl, ?_⟩
    refine ⟨_, rfl, _, _, _, _, rfl, rfl, SqT.of (ha), atI_nat (j := 2) rfl, _, rfl, pa, dx, _, rfl, hpa, rfl, ?_⟩
    refine ⟨pa, np, wd, hg, p, rfl, hpic, Op, fun t ht => ?_⟩
    have st : Same H (upd H t (.tup [.int p.left, .int p.up, .int wd, .int hg])) := Same.new ht
    refine ⟨_, rfl, _, rfl, b, t, p.left, p.up, wd, hg, x, y, p.depth, rfl, upd_same, O, by omega, by omega, fun e => ?_, fun c e t2 ht2 => ?_⟩
    · refine ⟨_, rfl, rfl, _, rfl, if_B (by simp) ?_⟩
      refine ⟨_, rfl, _, _, _, _, rfl, rfl, SqT.of (st _ _ ha), atI_nat (j := 2) rfl, ?_⟩
      unfold srcV at q
      rw [e] at q
      rcases O with ⟨z, rfl, _⟩ | ⟨i, rfl, i1, i2⟩
      · unfold foldC at e
        split at e <;> cases e
      · exact q _ st
    · obtain ⟨r1, r2, r3, r4⟩ := foldC_rng e (by omega) (by omega)
      have st2 : Same H (upd (upd H t (.tup [.int p.left, .int p.up, .int wd, .int hg])) t2 (.tup [.int c.1, .int c.2])) := st.trans (Same.new ht2)
      have ht3 : (upd (upd H t (.tup [.int p.left, .int p.up, .int wd, .int hg])) t2 (.tup [.int c.1, .int c.2])) t2 = some (.tup [.int c.1, .int c.2]) := upd_same
      obtain ⟨i, hi⟩ : ∃ i : Nat, c.1 = p.left + i := ⟨(c.1 - p.left).toNat, by omega⟩
      obtain ⟨j, hj⟩ : ∃ j : Nat, c.2 = p.up + j := ⟨(c.2 - p.up).toNat, by omega⟩
      obtain ⟨as, bs, cs, b', c', e1, e2, e3, e4, e5, e6, e7, e8, e9⟩ := planes_cell hpl Op (p := k) (j := j) (i := i) hk (by omega) (by omega)
      refine ⟨_, rfl, rfl, _, rfl, if_Bf (by simp) ?_⟩
      refine ⟨_, rfl, _, _, _, _, _, rfl, (st2 _ _ hpa), T.cl_Picture, T.na_planes, rfl, _, rfl, _, _, _, _, rfl, rfl, SqT.of (st2 _ _ e1), atI_nat e2, ?_⟩
      refine ⟨_, rfl, _, _, _, _, rfl, rfl, SqT.of (ht3), atI_nat (j := 1) rfl, _, rfl, _, _, _, _, _, rfl, (st2 _ _ hpa), T.cl_Picture, T.na_up, rfl, _, _, rfl, rfl, _, _, _, _, rfl, rfl, SqT.of (st2 _ _ e3), (by rw [show c.2 - p.up = (j : Int) by omega]; exact atI_nat e4), ?_⟩
      refine ⟨_, rfl, _, _, _, _, rfl, rfl, SqT.of (ht3), atI_nat (j := 0) rfl, _, rfl, _, _, _, _, _, rfl, (st2 _ _ hpa), T.cl_Picture, T.na_left, rfl, _, _, rfl, rfl, _, _, _, _, rfl, rfl, SqT.of (st2 _ _ e5), (by rw [show c.1 - p.left = (i : Int) by omega]; exact atI_nat e6), ?_⟩
      have z := q _ st2
      unfold srcV at z
      rw [e] at z
      have z1 : (c.2 - p.up).toNat = j := by omega
      have z2 : (c.1 - p.left).toNat = i := by omega
      dsimp only at z
      rw [z1, z2] at z
      exact z
end
end K22
end
section
/-! ### tables, ranks -/
namespace K22
open PySem PySem.Spec PyProof.Rows L2 LamX
/-! a form -/
def PlaceAt (H : Hp) (b : Addr) (c : Int × Int) : Prop := H b = some (.tup [.int c.1, .int c.2])
abbrev FormAt := TAt PlaceAt
theorem FormAt.mono {H H' : Hp} {a : Addr} {f : List (Int × Int)} (h : FormAt H a f) (ts : TupS H H') : FormAt H' a f := TAt.mono h ts fun _ _ z => ts _ _ z
structure OkForm (f : List (Int × Int)) : Prop where
  nd : f.Nodup
  n1 : 1 ≤ f.length
  n2 : f.length ≤ 25
  rng : ∀ c ∈ f, -4 ≤ c.1 ∧ c.1 ≤ 4 ∧ -4 ≤ c.2 ∧ c.2 ≤ 4
structure CrvAt (H : Hp) (a : Addr) (nm : Str) (ts : List Int) : Prop where
  ex : ∃ ta, H a = some (.tup [.str "curved", .str nm, .ref ta, .non]) ∧ RowAt H ta ts
structure RnkAt (H : Hp) (a : Addr) (nm : Str) (fm : List (Int × Int)) (r : Nat) : Prop where
  ex : ∃ fa, H a = some (.tup [.str "ranked", .str nm, .ref fa, .int r]) ∧ FormAt H fa fm
theorem CrvAt.mono {H H' : Hp} {a : Addr} {nm : Str} {ts : List Int} (h : CrvAt H a nm ts) (k : TupS H H') : CrvAt H' a nm ts := by
  obtain ⟨ta, h1, h2⟩ := h.ex
  exact ⟨ta, k _ _ h1, k _ _ h2⟩
theorem RnkAt.mono {H H' : Hp} {a : Addr} {nm : Str} {fm : List (Int × Int)} {r : Nat} (h : RnkAt H a nm fm r) (k : TupS H H') : RnkAt H' a nm fm r := by
  obtain ⟨ta, h1, h2⟩ := h.ex
  exact ⟨ta, k _ _ h1, FormAt.mono h2 k⟩
structure OkTab (dp : Nat) (ts : List Int) : Prop where
  len : ts.length = dp + 1
  rng : ∀ t ∈ ts, 0 ≤ t ∧ t ≤ dp
  d1 : 1 ≤ dp
  d2 : dp ≤ 65535
section
variable {P : Program} {w : World} {K : PySem.W.Frag} {mg : Str → Option Value} {base : Heap}
/-! same_shape -/
def spSame : Sp := fun vs H Q _ => ∃ a s v rest, vs = [a, .ref s] ∧ H s = some (.lst (v :: rest)) ∧ Q v H
theorem sc_same_shape : FnScope ["stage", "shapes"] ["stage", "shapes"] (defScope s_same_shape) := ⟨rfl, rfl, rfl, by decide +kernel, rfl, by decide +kernel, by decide +kernel⟩
theorem ok_same_shape (T : Fx K mg w) : Cal P w K mg base 1 "same_shape" spSame [] := by
  refine cal_of T.d_same_shape sc_same_shape (fun _ _ _ _ _ _ us hl => match us, hl with | [_, _], _ => rfl) (fun vs H Q E h => ?_) (fun cdv A outer s H vs Q E hr h => ?_)
  · obtain ⟨a, s, v, rest, rfl, _⟩ := h
    rfl
  · refine ⟨_, (pss_one (ps_ret (pe_ix (ix_listK (K := K) rfl) (pv 1) pe_int (fun _ _ => rfl)))), ?_⟩
    obtain ⟨a, s, v, rest, rfl, hs, q⟩ := h
    exact ⟨_, rfl, _, _, _, _, rfl, rfl, SqL.of (hs), atI_nat (j := 0) rfl, q⟩
/-! is_curved -/
def spIsCurved : Sp := fun vs H Q _ => ∃ a nm ts dp, vs = [.ref a] ∧ CrvAt H a nm ts ∧ OkTab dp ts ∧ ∀ H', Same H H' → Q (.bl true) H'
theorem sc_is_curved : FnScope ["stage", "table", "depth"] ["stage"] (defScope s_is_curved) := ⟨rfl, rfl, rfl, by decide +kernel, rfl, by decide +kernel, by decide +kernel⟩
theorem ok_is_curved (T : Fx K mg w) : Cal P w K mg base 4 "is_curved" spIsCurved [] := by
  have c_is_from : Cal P w K mg base 2 "is_from" spFrom [] := ok_is_from T
  have c_are_wholes : Cal P w K mg base 3 "are_wholes" (spWholes K) [] := ok_are_wholes T
  refine cal_of T.d_is_curved sc_is_curved (fun _ _ _ _ _ _ us hl => match us, hl with | [_], _ => rfl) (fun vs H Q E h => ?_) (fun cdv A outer s H vs Q E hr h => ?_)
  · obtain ⟨a, nm, ts, dp, rfl, _⟩ := h
    rfl
  · refine ⟨_, (pss_cons (ps_par (i := 1) (j := 2) rfl sc_is_curved.nd rfl rfl (by decide) rfl rfl (pa_cons (pe_ix (ix_tupK (K := K) rfl) (pv 0) pe_int (fun _ _ => rfl)) (pa_cons (pe_ix (ix_tupK (K := K) rfl) (pv 0) pe_int (fun _ _ => rfl)) pa_nil)) (by rfl))
      (pss_cons (ps_if (PW.pt (pw_and (pt_cmpR op_notN (pv 2) pe_non (nomark _)) (pw_and1 (pt_not (pt_val (pe_c c_is_from hr (by omega) rfl (pa_cons (pv 2) (pa_cons pe_int (pa_cons (C8.pe_gc rfl T.g_DEEPEST) pa_nil))))))))) (pss_one (ps_ret pe_bl)) pss_nil)
      (pss_cons (ps_if (PW.pt (pw_or (pt_not (pt_val (pe_callB (id := "isinstance") (cr_isiK (K := K) rfl) (by rfl) T.f_isinstance (by decide +kernel) (pa_cons (pv 1) (pa_cons (pe_bltn (v := .ty "tuple") (by rfl) T.f_tuple (by decide +kernel) rfl) pa_nil))))) (pw_or1 (pt_not (pt_chain op_le op_le pe_int (pe_callB (id := "len") (cr_lenK (K := K) rfl) (by rfl) T.f_len (by decide +kernel) (pa_cons (pv 1) pa_nil)) (pe_op op_add (C8.pe_gc rfl T.g_DEEPEST) pe_int)))))) (pss_one (ps_ret pe_bl)) pss_nil)
      (pss_one (ps_ret (pe_c c_are_wholes hr (by omega) rfl (pa_cons (pv 1) (pa_cons pe_int (pa_cons (pe_ifExp (pt_cmpR op_isN (pv 2) pe_non (nomark _)) (C8.pe_gc rfl T.g_DEEPEST) (pv 2)) pa_nil))))))))), ?_⟩
    obtain ⟨a, nm, ts, dp, rfl, ⟨ta, ha, ht⟩, O, q⟩ := h
    have ol := O.len
    have d1 := O.d1
    have d2 := O.d2
    refine ⟨_, rfl, _, _, _, _, rfl, rfl, SqT.of (ha), atI_nat (j := 2) rfl, _, rfl, _, _, _, _, rfl, rfl, SqT.of (ha), atI_nat (j := 3) rfl, ?_⟩
    refine ⟨_, _, rfl, _, rfl, rfl, _, rfl, ?_⟩
    refine if_Bf (by simp) ?_
    refine ⟨_, rfl, .ref _, .ty "tuple", .type "tuple", .type "tuple", true, rfl, .ty _, .base (.tup (ht)), kit_ty (by decide +kernel), true, rfl, iteF ?_⟩
    refine ⟨_, rfl, .ref _, _, rfl, Or.inr ⟨_, SqT.of (ht), rfl⟩, 2, _, rfl, rfl, _, rfl, if_true (by simp; omega) ⟨_, _, rfl, rfl, _, _, rfl, rfl, _, rfl, if_nottrue (by simp; omega) ?_⟩⟩
    refine ⟨_, rfl, _, rfl, rfl, _, rfl, if_B (by simp) ?_⟩
    refine ⟨ta, 0, 65535, ts, rfl, ht, by omega, fun t htm => ?_, fun H' s' => q H' s'⟩
    have tr := O.rng t htm
    omega
/-! shape_of_curved -/
def spShapeCrv : Sp := fun vs H Q _ => ∃ a nm ts dp np s t rest, vs = [.ref a, .ref s] ∧ CrvAt H a nm ts ∧ OkTab dp ts ∧ H s = some (.lst (.ref t :: rest)) ∧ ShpAt H t np dp ∧ ∀ t, H t = none → Q (.ref t) (upd H t (.tup [.int np, .int dp]))
theorem sc_shape_of_curved : FnScope ["stage", "shapes", "planes", "depth", "table", "fresh"] ["stage", "shapes"] (defScope s_shape_of_curved) := ⟨rfl, rfl, rfl, by decide +kernel, rfl, by decide +kernel, by decide +kernel⟩
theorem ok_shape_of_curved (T : Fx K mg w) : Cal P w K mg base 1 "shape_of_curved" spShapeCrv [] := by
  refine cal_of T.d_shape_of_curved sc_shape_of_curved (fun _ _ _ _ _ _ us hl => match us, hl with | [_, _], _ => rfl) (fun vs H Q E h => ?_) (fun cdv A outer s H vs Q E hr h => ?_)
  · obtain ⟨a, nm, ts, dp, np, s, t, rest, rfl, _⟩ := h
    rfl
  · have hu := hu_of hr
    refine ⟨_, (pss_cons (ps_asg (pe_ix (ix_listK (K := K) rfl) (pv 1) pe_int (fun _ _ => rfl)) (pg_tupK (K := K) (n := 2) rfl rfl (pgs_cons (pg_name (i := 2) sc_shape_of_curved.nd rfl (Or.inl rfl)) (pgs_cons (pg_name (i := 3) sc_shape_of_curved.nd rfl (Or.inl rfl)) pgs_nil))))
      (pss_cons (ps_set (i := 4) sc_shape_of_curved.nd rfl (Or.inl rfl) (pe_ix (ix_tupK (K := K) rfl) (pv 0) pe_int (fun _ _ => rfl)))
      (pss_cons (ps_set (i := 5) sc_shape_of_curved.nd rfl (Or.inl rfl) (pe_ifExp (pt_cmpR op_isN (pe_ix (ix_tupK (K := K) rfl) (pv 0) pe_int (fun _ _ => rfl)) pe_non (nomark _)) (pv 3) (pe_ix (ix_tupK (K := K) rfl) (pv 0) pe_int (fun _ _ => rfl))))
      (pss_cons (ps_if (PW.pt (pw_or (pt_cmpR op_ne (pe_callB (id := "len") (cr_lenK (K := K) rfl) (by rfl) T.f_len (by decide +kernel) (pa_cons (pv 4) pa_nil)) (pe_op op_add (pv 3) pe_int) (nomark _)) (pw_or1 (pt_cmpR op_gt (pe_callB (cr_maxT rfl hu) (by rfl) T.f_max (by decide +kernel) (pa_cons (pv 4) pa_nil)) (pv 5) (nomark _))))) pss_never pss_nil)
      (pss_one (ps_ret (pe_tup (pa_cons (pv 2) (pa_cons (pv 5) pa_nil))))))))), ?_⟩
    obtain ⟨a, nm, ts, dp, np, s, t, rest, rfl, ⟨ta, ha, ht⟩, O, hs, hsh, q⟩ := h
    have ol := O.len
    refine ⟨_, rfl, _, _, _, _, rfl, rfl, SqL.of (hs), atI_nat (j := 0) rfl, _, _, rfl, SqT.of (hsh), rfl, _, _, rfl, _, _, rfl, rfl, ?_⟩
    refine ⟨_, rfl, _, _, _, _, rfl, rfl, SqT.of (ha), atI_nat (j := 2) rfl, ?_⟩
    refine ⟨_, rfl, _, _, _, _, rfl, rfl, SqT.of (ha), atI_nat (j := 3) rfl, rfl, _, rfl, if_B (by simp) ⟨_, rfl, ?_⟩⟩
    refine ⟨_, rfl, .ref _, _, rfl, Or.inr ⟨_, SqT.of (ht), rfl⟩, _, rfl, _, _, rfl, rfl, rfl, _, rfl, if_nottrue (by rw [List.length_map, ol]; simp) ?_⟩
    refine ⟨_, rfl, ta, ts, rfl, SqT.of ht, (by intro z; rw [z] at ol; simp at ol), fun m hm => ?_⟩
    have mr := O.rng m hm
    refine ⟨_, rfl, _, _, rfl, rfl, _, rfl, if_false (by omega) ?_⟩
    exact ⟨_, rfl, _, rfl, (by rw [sizeLine_eq]; exact Nat.le_of_ble_eq_true rfl), q⟩
/-! is_form -/
def spIsForm : Sp := fun vs H Q _ => ∃ a f, vs = [.ref a] ∧ FormAt H a f ∧ OkForm f ∧ ∀ H', Same H H' → Q (.bl true) H'
theorem sc_is_form : FnScope ["thing", "place"] ["thing"] (defScope s_is_form) := ⟨rfl, rfl, rfl, by decide +kernel, rfl, by decide +kernel, by decide +kernel⟩
theorem ok_is_form (T : Fx K mg w) : Cal P w K mg base 4 "is_form" spIsForm [] := by
  have c_are_wholes : Cal P w K mg base 3 "are_wholes" (spWholes K) [] := ok_are_wholes T
  refine cal_of T.d_is_form sc_is_form (fun _ _ _ _ _ _ us hl => match us, hl with | [_], _ => rfl) (fun vs H Q E h => ?_) (fun cdv A outer s H vs Q E hr h => ?_)
  · obtain ⟨a, f, rfl, _⟩ := h
    rfl
  · have hu := hu_of hr
    refine ⟨_, (pss_cons (ps_if (PW.pt (pw_or (pt_not (pt_val (pe_callB (id := "isinstance") (cr_isiK (K := K) rfl) (by rfl) T.f_isinstance (by decide +kernel) (pa_cons (pv 0) (pa_cons (pe_bltn (v := .ty "tuple") (by rfl) T.f_tuple (by decide +kernel) rfl) pa_nil))))) (pw_or1 (pt_not (pt_chain op_le op_le pe_int (pe_callB (id := "len") (cr_lenK (K := K) rfl) (by rfl) T.f_len (by decide +kernel) (pa_cons (pv 0) pa_nil)) (C8.pe_gc rfl T.g_MOST_PLACES)))))) (pss_one (ps_ret pe_bl)) pss_nil)
      (pss_cons (ps_if (pt_not (pt_val (pe_callB (id := "all") (cr_allK (K := K) rfl rfl) (by rfl) T.f_all (by decide +kernel) (pa_cons (pe_lc (own := [("place", 1)]) rfl sc_is_form.nd (pi_tupK (K := K) rfl (pv 0)) (blkOk_by (N := ["thing", "place"]) (sc := defScope s_is_form) (by decide +kernel)) (fun _ _ _ _ _ => (pg_name (i := 1) sc_is_form.nd rfl (by first | exact Or.inl rfl | exact Or.inr rfl))) (fun _ _ _ _ _ => pts_nil) (fun _ _ _ _ _ => (pe_and (pe_c c_are_wholes hr (by omega) rfl (pa_cons (pv 1) (pa_cons (pe_un un_neg (C8.pe_gc rfl T.g_FARTHEST_PLACE)) (pa_cons (C8.pe_gc rfl T.g_FARTHEST_PLACE) pa_nil)))) (pe_one (pe_cmpR op_eq (pe_callB (id := "len") (cr_lenK (K := K) rfl) (by rfl) T.f_len (by decide +kernel) (pa_cons (pv 1) pa_nil)) pe_int (nomark _)))))) pa_nil)))) (pss_one (ps_ret pe_bl)) pss_nil)
      (pss_one (ps_ret (pe_cmpR op_eq (pe_callB cr_lenSO (by rfl) T.f_len (by decide +kernel) (pa_cons (pe_callTy (cr_setT rfl (hu3_of hr)) (by rfl) T.f_set (by decide +kernel) (pa_cons (pv 0) pa_nil)) pa_nil)) (pe_callB (id := "len") (cr_lenK (K := K) rfl) (by rfl) T.f_len (by decide +kernel) (pa_cons (pv 0) pa_nil)) (nomark _)))))), ?_⟩
    obtain ⟨a, f, rfl, hf, O, q⟩ := h
    obtain ⟨as, ha, hl, hm⟩ := id hf
    have n1 := O.n1
    have n2 := O.n2
    refine ⟨_, rfl, .ref _, .ty "tuple", .type "tuple", .type "tuple", true, rfl, .ty _, .base (.tup (ha)), kit_ty (by decide +kernel), true, rfl, iteF ?_⟩
    refine ⟨_, rfl, .ref _, _, rfl, Or.inr ⟨_, SqT.of (ha), rfl⟩, 1, _, rfl, rfl, _, rfl, if_true (by simp; omega) ⟨_, _, rfl, rfl, _, rfl, if_nottrue (by simp; omega) ?_⟩⟩
    refine ⟨_, rfl, a, rfl, ⟨_, SqT.of ha⟩, fun D hD => ?_⟩
    refine lc_tupG (xs := as.map V.ref) (fun H' => Same H H') (fun _ y _ => y = .bl true) (Same.new hD) (fun H' j => j.sqt (SqT.of ha)) (fun H' acc acc' j e => j.to' hD) (fun _ _ _ _ _ h => h) (by simp; omega) (fun i x H' acc Fin hx j e k => ?_) fun H1 acc j e _ ho => ?_
    · obtain ⟨b, hb, rfl⟩ := mem_ref hx
      obtain ⟨c, hc, hcb⟩ := TAt.mem hl hm hb
      obtain ⟨r1, r2, r3, r4⟩ := O.rng c hc
      have hcb := j _ _ hcb
      refine ⟨rfl, _, rfl, 4, rfl, b, -4, 4, [c.1, c.2], rfl, hcb, by simp, fun n hn => ?_, fun H2 s2 => ?_⟩
      · simp at hn
        rcases hn with rfl | rfl <;> omega
      · refine ⟨true, rfl, iteT ?_⟩
        refine ⟨_, rfl, .ref _, _, rfl, Or.inr ⟨_, SqT.of (s2 _ _ hcb), rfl⟩, rfl, ?_⟩
        exact k _ _ (j.trans s2) (s2 _ _ e) (TupS.of s2) (by simp)
    refine ⟨_, _, rfl, all_sq e ho, _, rfl, if_notB (all_true _) ?_⟩
    have z1 : (as.zip f).map (·.1) = as := List.map_fst_zip (by omega)
    have z2 : (as.zip f).map (·.2) = f := List.map_snd_zip (by omega)
    have z3 : (as.zip f).length = f.length := by rw [List.length_zip]; omega
    refine ⟨_, rfl, a, (as.zip f).map (fun q => (q.1, [q.2.1, q.2.2])), rfl, ?_, fun p hp => ?_, ?_, ?_, fun s L hs hL => ?_⟩
    · have e1 : ((as.zip f).map (fun q => (q.1, [q.2.1, q.2.2]))).map (fun p => V.ref p.1) = as.map V.ref := by
        conv => rhs; rw [← z1]
        simp [List.map_map]
      rw [e1]
      exact SqT.of (j _ _ ha)
    · obtain ⟨q, hq, rfl⟩ := List.mem_map.mp hp
      obtain ⟨i, hi⟩ := List.mem_iff_getElem?.mp hq
      rw [List.getElem?_zip_eq_some] at hi
      obtain ⟨b, e1, e2⟩ := hm i q.2 hi.2
      rw [hi.1] at e1
      cases e1
      exact j _ _ e2
    · rw [List.length_map, z3]
      omega
    · have e1 : ((as.zip f).map (fun q => (q.1, [q.2.1, q.2.2]))).map (·.2) = f.map (fun c => [c.1, c.2]) := by
        conv => rhs; rw [← z2]
        simp [List.map_map]
      rw [e1]
      refine List.Pairwise.map _ (fun c d ne e => ne ?_) O.nd
      injection e with e1 e2
      injection e2 with e2 _
      exact Prod.ext e1 e2
    · rw [List.length_map, z3] at hL
      have st := Same.new (o := SetTO P w s L) hs
      refine ⟨s, _, rfl, Or.inr ⟨L, rfl, upd_same⟩, _, rfl, .ref _, _, rfl, Or.inr ⟨_, SqT.of (st _ _ (j _ _ ha)), rfl⟩, rfl, ?_⟩
      rw [show (decide (V.int (L.length : Int) = V.int ((as.map V.ref).length : Int))) = true from by rw [List.length_map, hl, hL]; simp]
      exact q _ (j.trans st)
/-! is_ranked -/
def spIsRanked : Sp := fun vs H Q _ => ∃ a nm f r, vs = [.ref a] ∧ RnkAt H a nm f r ∧ OkForm f ∧ r < f.length ∧ ∀ H', Same H H' → Q (.bl true) H'
theorem sc_is_ranked : FnScope ["stage"] ["stage"] (defScope s_is_ranked) := ⟨rfl, rfl, rfl, by decide +kernel, rfl, by decide +kernel, by decide +kernel⟩
theorem ok_is_ranked (T : Fx K mg w) : Cal P w K mg base 5 "is_ranked" spIsRanked [] := by
  have c_is_form : Cal P w K mg base 4 "is_form" spIsForm [] := ok_is_form T
  have c_is_from : Cal P w K mg base 2 "is_from" spFrom [] := ok_is_from T
  refine cal_of T.d_is_ranked sc_is_ranked (fun _ _ _ _ _ _ us hl => match us, hl with | [_], _ => rfl) (fun vs H Q E h => ?_) (fun cdv A outer s H vs Q E hr h => ?_)
  · obtain ⟨a, nm, f, r, rfl, _⟩ := h
    rfl
  · refine ⟨_, (pss_one (ps_ret (pe_and (pe_c c_is_form hr (by omega) rfl (pa_cons (pe_ix (ix_tupK (K := K) rfl) (pv 0) pe_int (fun _ _ => rfl)) pa_nil)) (pe_one (pe_c c_is_from hr (by omega) rfl (pa_cons (pe_ix (ix_tupK (K := K) rfl) (pv 0) pe_int (fun _ _ => rfl)) (pa_cons pe_int (pa_cons (pe_op op_sub (pe_callB (id := "len") (cr_lenK (K := K) rfl) (by rfl) T.f_len (by decide +kernel) (pa_cons (pe_ix (ix_tupK (K := K) rfl) (pv 0) pe_int (fun _ _ => rfl)) pa_nil)) pe_int) pa_nil)))))))), ?_⟩
    obtain ⟨a, nm, f, r, rfl, ⟨fa, ha, hf⟩, O, hr2, q⟩ := h
    obtain ⟨as, hfa, hl, hm⟩ := id hf
    refine ⟨_, rfl, _, _, _, _, rfl, rfl, SqT.of (ha), atI_nat (j := 2) rfl, fa, f, rfl, hf, O, fun H1 s1 => ?_⟩
    refine ⟨true, rfl, iteT ?_⟩
    refine ⟨_, rfl, _, _, _, _, rfl, rfl, SqT.of (s1 _ _ ha), atI_nat (j := 3) rfl, _, rfl, _, _, _, _, rfl, rfl, SqT.of (s1 _ _ ha), atI_nat (j := 2) rfl, .ref _, _, rfl, Or.inr ⟨_, SqT.of (s1 _ _ hfa), rfl⟩, _, _, rfl, rfl, Or.inl ⟨r, _, _, rfl, by omega, by simp; omega, q _ s1⟩⟩
/-! cells_of_ranked -/
structure CellsAt (H : Hp) (l : Addr) (cs : List (Int × Int)) : Prop where
  ex : ∃ as : List Addr, H l = some (.lst (as.map V.ref)) ∧ as.length = cs.length ∧ ∀ (i : Nat) c, cs[i]? = some c → ∃ b, as[i]? = some b ∧ PlaceAt H b c
def spCells : Sp := fun vs H Q _ => ∃ a nm f r z x y, vs = [.ref a, z, .int x, .int y] ∧ RnkAt H a nm f r ∧ OkForm f ∧ ∀ H' l, Same H H' → H l = none → CellsAt H' l (f.map fun c => (x + c.1, y + c.2)) → Q (.ref l) H'
theorem sc_cells_of_ranked : FnScope ["stage", "which", "x", "y", "right", "down"] ["stage", "which", "x", "y"] (defScope s_cells_of_ranked) := ⟨rfl, rfl, rfl, by decide +kernel, rfl, by decide +kernel, by decide +kernel⟩
theorem ok_cells_of_ranked (T : Fx K mg w) : Cal P w K mg base 1 "cells_of_ranked" spCells [] := by
  refine cal_of T.d_cells_of_ranked sc_cells_of_ranked (fun _ _ _ _ _ _ us hl => match us, hl with | [_, _, _, _], _ => rfl) (fun vs H Q E h => ?_) (fun cdv A outer s H vs Q E hr h => ?_)
  · obtain ⟨a, nm, f, r, z, x, y, rfl, _⟩ := h
    rfl
  · refine ⟨_, (pss_one (ps_ret (pe_lc (own := [("right", 4), ("down", 5)]) rfl sc_cells_of_ranked.nd (pi_tupK (K := K) rfl (pe_ix (ix_tupK (K := K) rfl) (pv 0) pe_int (fun _ _ => rfl))) (blkOk_by (N := ["stage", "which", "x", "y", "right", "down"]) (sc := defScope s_cells_of_ranked) (by decide +kernel)) (fun _ _ _ _ _ => (pg_tupK (K := K) (n := 2) rfl rfl (pgs_cons (pg_name (i := 4) sc_cells_of_ranked.nd rfl (by first | exact Or.inl rfl | exact Or.inr rfl)) (pgs_cons (pg_name (i := 5) sc_cells_of_ranked.nd rfl (by first | exact Or.inl rfl | exact Or.inr rfl)) pgs_nil)))) (fun _ _ _ _ _ => pts_nil) (fun _ _ _ _ _ => (pe_tup (pa_cons (pe_op op_add (pv 2) (pv 4)) (pa_cons (pe_op op_add (pv 3) (pv 5)) pa_nil))))))), ?_⟩
    obtain ⟨a, nm, f, r, z, x, y, rfl, ⟨fa, ha, hf⟩, O, q⟩ := h
    obtain ⟨as, hfa, hl, hm⟩ := id hf
    have n2 := O.n2
    refine ⟨_, rfl, _, _, _, _, rfl, rfl, SqT.of (ha), atI_nat (j := 2) rfl, fa, rfl, ⟨_, SqT.of hfa⟩, fun D hD => ?_⟩
    refine lc_tupG (xs := as.map V.ref) (fun H' => Same H H') (fun i v H' => ∃ b c, v = .ref b ∧ f[i]? = some c ∧ PlaceAt H' b (x + c.1, y + c.2)) (Same.new hD) (fun H' j => j.sqt (SqT.of hfa)) (fun H' acc acc' j e => j.to' hD) (fun i v H1 H2 ts h => ?_) (by simp; omega) (fun i v H' acc Fin hx j e k => ?_) fun H1 acc j e el ho => ?_
    · obtain ⟨b, c, e1, e2, e3⟩ := h
      exact ⟨b, c, e1, e2, ts _ _ e3⟩
    · have li : i < f.length := by
        have := (List.getElem?_eq_some_iff.mp hx).1
        simp at this
        omega
      obtain ⟨b, eb, hb⟩ := hm i f[i] (by simp [li])
      have ev : v = .ref b := by
        rw [List.getElem?_map, eb] at hx
        exact (Option.some.inj hx).symm
      subst ev
      refine ⟨_, _, rfl, SqT.of (j _ _ hb), rfl, _, _, rfl, _, _, rfl, rfl, rfl, ?_⟩
      refine ⟨_, rfl, _, rfl, _, _, rfl, rfl, _, rfl, _, rfl, _, _, rfl, rfl, (by rw [sizeLine_eq]; exact Nat.le_of_ble_eq_true rfl), fun p hp => ?_⟩
      have sn := Same.new (o := .tup [.int (x + f[i].1), .int (y + f[i].2)]) hp
      exact k _ _ (j.trans sn) (sn _ _ e) (TupS.of sn) ⟨p, f[i], rfl, by simp [li], upd_same⟩
    · rw [List.length_map, hl] at el
      have hb : ∀ i, i < f.length → ∃ b c, acc[i]? = some (.ref b) ∧ f[i]? = some c ∧ PlaceAt H1 b (x + c.1, y + c.2) := by
        intro i hi
        have e1 : acc[i]? = some acc[i] := by simp [el, hi]
        obtain ⟨b, c, e2, e3, e4⟩ := ho i _ e1
        rw [e2] at e1
        exact ⟨b, c, e1, e3, e4⟩
      refine q H1 D j hD ⟨acc.map fun v => match v with | .ref b => b | _ => 0, ?_, by simp [el], fun i c hc => ?_⟩
      · rw [e, List.map_map]
        congr 2
        apply List.ext_getElem?
        intro i
        by_cases hi : i < f.length
        · obtain ⟨b, c, e1, _⟩ := hb i hi
          rw [List.getElem?_map, e1]
          rfl
        · rw [List.getElem?_eq_none (by omega), List.getElem?_eq_none (by simp; omega)]
      · rw [List.getElem?_map] at hc
        cases hf : f[i]? with
        | none => rw [hf] at hc; cases hc
        | some d =>
          rw [hf] at hc
          cases hc
          obtain ⟨b, c, e1, e2, e3⟩ := hb i (List.getElem?_eq_some_iff.mp hf).1
          rw [hf] at e2
          cases e2
          exact ⟨b, by rw [List.getElem?_map, e1]; rfl, e3⟩
end
end K22
end
section
/-! ### what a stage tells by what it is made of -/
namespace K22
open PySem PySem.Spec PyProof.Rows L2 LamX
/-- all stays but the memo m and the tables of code -/
def Lk (m : Addr) (H H' : Hp) : Prop := ∀ b o, b ≠ m → H b = some o → (∀ ps, o ≠ .tbl ps) → H' b = some o
theorem Lk.of {m : Addr} {H H' : Hp} (s : Same H H') : Lk m H H' := fun b o _ e _ => s b o e
theorem Lk.trans {m : Addr} {H H1 H2 : Hp} (a : Lk m H H1) (b : Lk m H1 H2) : Lk m H H2 := fun c o n e z => b c o n (a c o n e z) z
theorem Lk.new {m D : Addr} {H H' : Hp} {o : HO} (a : Lk m H H') (h : H D = none) : Lk m H (upd H' D o) := fun c u n e z => by
  rw [upd_ne (ne_of_none e h)]
  exact a c u n e z
/-- number r of a list, from the least -/
def rnk (l : List Int) (r : Nat) : Int := (l.mergeSort (fun a b => decide (a ≤ b))).getD r 0
theorem sort_uniq : ∀ {l1 l2 : List Int}, l1.Perm l2 → l1.Pairwise (· ≤ ·) → l2.Pairwise (· ≤ ·) → l1 = l2
  | [], l2, p, _, _ => (List.nil_perm.mp p).symm
  | x :: l1, [], p, _, _ => by
    have := p.length_eq
    simp at this
  | x :: l1, y :: l2, p, h1, h2 => by
    have a := List.pairwise_cons.mp h1
    have b := List.pairwise_cons.mp h2
    have e : x = y := by
      have hx : x ∈ y :: l2 := p.mem_iff.mp List.mem_cons_self
      have hy : y ∈ x :: l1 := p.mem_iff.mpr List.mem_cons_self
      rcases List.mem_cons.mp hx with h | h
      · exact h
      · rcases List.mem_cons.mp hy with k | k
        · exact k.symm
        · have z1 := a.1 y k
          have z2 := b.1 x h
          omega
    subst e
    rw [sort_uniq (List.Perm.cons_inv p) a.2 b.2]
theorem srt_sorted (l : List Int) : (l.mergeSort (fun a b => decide (a ≤ b))).Pairwise (· ≤ ·) := by
  have h := List.pairwise_mergeSort (le := fun a b : Int => decide (a ≤ b)) (fun a b c h1 h2 => by simp at *; omega) (fun a b => by simp; omega) l
  exact h.imp (fun h => by simpa using h)
theorem rnk_of {l ns : List Int} {r : Nat} (p : ns.Perm l) (s : ns.Pairwise (· ≤ ·)) (hr : r < l.length) : ns[r]? = some (rnk l r) := by
  have e : ns = l.mergeSort (fun a b => decide (a ≤ b)) := sort_uniq (p.trans (List.mergeSort_perm l _).symm) s (srt_sorted l)
  subst e
  unfold rnk
  rw [List.getD_eq_getElem?_getD]
  have lt : r < (l.mergeSort (fun a b => decide (a ≤ b))).length := by rw [List.length_mergeSort]; exact hr
  rw [List.getElem?_eq_getElem lt]
  rfl
section
variable {P : Program} {w : World} {K : PySem.W.Frag} {mg : Str → Option Value} {base : Heap}
def spLook (m : Addr) (J : Nat → Hp → Prop) (g : Int → Int → Nat → Int) (np c lim : Nat) : Sp := fun vs H Q _ => ∃ x y, ∃ p n : Nat, vs = [.int 0, .int x, .int y, .int p] ∧ p < np ∧ J n H ∧ n + c ≤ lim ∧ ∀ H', Lk m H H' → J (n + c) H' → Q (.int (g x y p)) H'
/-- look, as a stage is handed it -/
structure LookOk (P : Program) (w : World) (K : PySem.W.Frag) (mg : Str → Option Value) (base : Heap) (k : Nat) (f m : Addr) (J : Nat → Hp → Prop) (g : Int → Int → Nat → Int) (np c lim : Nat) : Prop where
  cb : Cb P w K mg base k f (fun H => ∃ n, J n H) (spLook m J g np c lim)
  same : ∀ {n H H'}, J n H → Same H H' → J n H'
  lst : ∀ {n0 n H0 H D xs} (ys : List V), J n0 H0 → H0 D = none → J n H → H D = some (.lst xs) → J n (upd H D (.lst ys))
  mem : ∀ {n H}, J n H → ∃ kvs, H m = some (.dT kvs)
  mono : ∀ {n n' H}, J n H → n ≤ n' → J n' H
theorem Lk.tups {m : Addr} {H H' : Hp} (h : Lk m H H') (hm : ∃ kvs, H m = some (.dT kvs)) : TupS H H' := fun b zs e => by
  obtain ⟨kvs, hm⟩ := hm
  exact h b _ (ne_of e hm (by intro z; cases z)) e (fun ps z => by cases z)
theorem Lk.lst {m b : Addr} {xs : List V} {H H' : Hp} (h : Lk m H H') (hm : ∃ kvs, H m = some (.dT kvs)) (e : H b = some (.lst xs)) : H' b = some (.lst xs) := by
  obtain ⟨kvs, hm⟩ := hm
  exact h b _ (ne_of e hm (by intro z; cases z)) e (fun ps z => by cases z)
/-! tell_curved -/
def spTellCrv (P : Program) (w : World) (K : PySem.W.Frag) (mg : Str → Option Value) (base : Heap) (k : Nat) : Sp := fun vs H Q _ => ∃ a nm ts dp s f x y m J g np c lim, ∃ p n : Nat, vs = [.ref a, s, .ref f, .int x, .int y, .int p] ∧ LookOk P w K mg base k f m J g np c lim ∧ CrvAt H a nm ts ∧ OkTab dp ts ∧ p < np ∧
  J n H ∧ n + c ≤ lim ∧ 0 ≤ g x y p ∧ g x y p ≤ dp ∧ ∀ H', Lk m H H' → J (n + c) H' → Q (.int (ts.getD (g x y p).toNat 0)) H'
theorem sc_tell_curved : FnScope ["stage", "shapes", "look", "x", "y", "plane"] ["stage", "shapes", "look", "x", "y", "plane"] (defScope s_tell_curved) := ⟨rfl, rfl, rfl, by decide +kernel, rfl, by decide +kernel, by decide +kernel⟩
theorem ok_tell_curved (T : Fx K mg w) {k : Nat} : Cal P w K mg base (k + 1) "tell_curved" (spTellCrv P w K mg base k) [] := by
  refine cal_of T.d_tell_curved sc_tell_curved (fun _ _ _ _ _ _ us hl => match us, hl with | [_, _, _, _, _, _], _ => rfl) (fun vs H Q E h => ?_) (fun cdv A outer s H vs Q E hr h => ?_)
  · obtain ⟨a, nm, ts, dp, s, f, x, y, m, J, g, np, c, lim, p, n, rfl, _⟩ := h
    rfl
  · obtain ⟨a, nm, ts, dp, s, f, x, y, m, J, g, np, c, lim, p, n, rfl, Lo, hc, O, hp, hJ, hl, g1, g2, q⟩ := h
    have CB := Lo.cb
    refine ⟨_, (pss_one (ps_ret (pe_ix (ix_tupK (K := K) rfl) (pe_ix (ix_tupK (K := K) rfl) (pv 0) pe_int (fun _ _ => rfl)) (pe_callCb CB hr (by omega) (i := 2) rfl (by first | exact Or.inl rfl | exact Or.inr (Or.inl rfl) | exact Or.inr (Or.inr rfl)) (pa_cons pe_int (pa_cons (pv 3) (pa_cons (pv 4) (pa_cons (pv 5) pa_nil))))) (fun _ _ => rfl)))), ?_⟩
    obtain ⟨ta, ha, ht⟩ := hc
    have ol := O.len
    refine ⟨_, rfl, _, _, _, _, rfl, rfl, SqT.of (ha), atI_nat (j := 2) rfl, rfl, ⟨n, hJ⟩, _, rfl, _, rfl, _, rfl, ⟨n, hJ⟩, x, y, p, n, rfl, hp, hJ, hl, fun H' l' j' => ?_⟩
    obtain ⟨i, hi⟩ : ∃ i : Nat, g x y p = i := ⟨(g x y p).toNat, by omega⟩
    have hz := q H' l' j'
    rw [hi] at hz ⊢
    have li : i < ts.length := by omega
    refine ⟨ta, _, _, _, rfl, rfl, SqT.of (l'.tups (Lo.mem hJ) _ _ ht), atI_nat (v := V.int (ts.getD i 0)) ?_, hz⟩
    rw [List.getElem?_map, List.getD_eq_getElem?_getD]
    simp [li]
/-! tell_ranked -/
def spTellRnk (P : Program) (w : World) (K : PySem.W.Frag) (mg : Str → Option Value) (base : Heap) (k : Nat) : Sp := fun vs H Q _ => ∃ a nm fm r s f x y m J g np c lim, ∃ p n : Nat, vs = [.ref a, s, .ref f, .int x, .int y, .int p] ∧ LookOk P w K mg base k f m J g np c lim ∧ RnkAt H a nm fm r ∧ OkForm fm ∧ r < fm.length ∧ p < np ∧
  J n H ∧ n + fm.length * c ≤ lim ∧ ∀ H', Lk m H H' → J (n + fm.length * c) H' → Q (.int (rnk (fm.map fun d => g (x + d.1) (y + d.2) p) r)) H'
theorem sc_tell_ranked : FnScope ["stage", "shapes", "look", "x", "y", "plane", "numbers", "here", "there"] ["stage", "shapes", "look", "x", "y", "plane"] (defScope s_tell_ranked) := ⟨rfl, rfl, rfl, by decide +kernel, rfl, by decide +kernel, by decide +kernel⟩
theorem ok_tell_ranked (T : Fx K mg w) {k : Nat} : Cal P w K mg base (k + 2) "tell_ranked" (spTellRnk P w K mg base k) [] := by
  have c_cells_of_ranked : Cal P w K mg base 1 "cells_of_ranked" spCells [] := ok_cells_of_ranked T
  refine cal_of T.d_tell_ranked sc_tell_ranked (fun _ _ _ _ _ _ us hl => match us, hl with | [_, _, _, _, _, _], _ => rfl) (fun vs H Q E h => ?_) (fun cdv A outer s H vs Q E hr h => ?_)
  · obtain ⟨a, nm, fm, r, s, f, x, y, m, J, g, np, c, lim, p, n, rfl, _⟩ := h
    rfl
  · obtain ⟨a, nm, fm, r, s, f, x, y, m, J, g, np, c, lim, p, n, rfl, Lo, hra, O, hr2, hp, hJ, hl, q⟩ := h
    have CB := Lo.cb
    refine ⟨_, (pss_cons (ps_setLc (i := 6) (own := [("here", 7), ("there", 8)]) rfl sc_tell_ranked.nd rfl rfl (sw_true rfl rfl rfl (by decide +kernel)) (pi_listK (K := K) rfl (pe_c c_cells_of_ranked hr (by omega) rfl (pa_cons (pv 0) (pa_cons pe_int (pa_cons (pv 3) (pa_cons (pv 4) pa_nil)))))) (blkOk_by (N := ["stage", "shapes", "look", "x", "y", "plane", "numbers", "here", "there"]) (sc := defScope s_tell_ranked) (by decide +kernel)) (fun _ _ _ _ _ => (pg_tupK (K := K) (n := 2) rfl rfl (pgs_cons (pg_name (i := 7) sc_tell_ranked.nd rfl (by first | exact Or.inl rfl | exact Or.inr rfl)) (pgs_cons (pg_name (i := 8) sc_tell_ranked.nd rfl (by first | exact Or.inl rfl | exact Or.inr rfl)) pgs_nil)))) (fun _ _ _ _ _ => pts_nil) (fun _ _ _ _ _ => (pe_callCb CB hr (by omega) (i := 2) rfl (by first | exact Or.inl rfl | exact Or.inr (Or.inl rfl) | exact Or.inr (Or.inr rfl)) (pa_cons pe_int (pa_cons (pv 7) (pa_cons (pv 8) (pa_cons (pv 5) pa_nil)))))))
      (pss_one (ps_ret (pe_ix (ix_listK (K := K) rfl) (pe_callB (id := "sorted") (cr_sortedK (K := K) rfl) (by rfl) T.f_sorted (by decide +kernel) (pa_cons (pv 6) pa_nil)) (pe_ix (ix_tupK (K := K) rfl) (pv 0) pe_int (fun _ _ => rfl)) (fun _ _ => rfl))))), ?_⟩
    obtain ⟨fa, ha, hfa⟩ := id hra
    refine ⟨_, rfl, _, rfl, _, rfl, a, nm, fm, r, _, x, y, rfl, hra, O, fun H1 l s1 hl1 hc => ?_⟩
    obtain ⟨as, hla, hal, hac⟩ := hc.ex
    rw [List.length_map] at hal
    have n2 := O.n2
    refine ⟨l, rfl, ⟨_, SqL.of hla⟩, fun D hD => ?_⟩
    have hJ1 : J n H1 := Lo.same hJ s1
    have hm1 := Lo.mem hJ1
    have hDH : H D = none := by
      cases e : H D with
      | none => rfl
      | some o => rw [s1 _ _ e] at hD; cases hD
    refine lc_anyI (n := as.length) (fun i v => (as.map V.ref)[i]? = some v) (fun i G => Lk m H1 G ∧ J (n + i * c) G) (fun i v _ => ∃ d, fm[i]? = some d ∧ v = .int (g (x + d.1) (y + d.2) p)) ⟨Lk.of (Same.new hD), ?_⟩ (fun i G hi j => ?_) (fun i G acc acc' j e => ⟨j.1.new hD, Lo.lst _ hJ1 hD j.2 e⟩) (fun _ _ _ _ _ h => h) (by omega) (fun i v G acc Fin li ev j e k => ?_) fun G acc j e el ho => ?_
    · rw [Nat.zero_mul]
      exact Lo.same hJ1 (Same.new hD)
    · have z := it_lst (K := K) (xs := as.map V.ref) (SqL.of (j.1.lst hm1 hla)) (by rw [List.length_map]; exact hi)
      rw [List.length_map] at z
      exact z
    · have li2 : i < fm.length := by omega
      obtain ⟨b, eb, hb⟩ := hac i (x + fm[i].1, y + fm[i].2) (by simp [li2])
      have ev2 : v = .ref b := by
        rw [List.getElem?_map, eb] at ev
        exact (Option.some.inj ev).symm
      subst ev2
      have hb2 := j.1.tups hm1 _ _ hb
      have room : n + i * c + c ≤ lim := by
        have z : (i + 1) * c ≤ fm.length * c := Nat.mul_le_mul_right c (by omega)
        rw [Nat.succ_mul] at z
        omega
      refine ⟨_, _, rfl, SqT.of hb2, rfl, _, _, rfl, _, _, rfl, rfl, rfl, ?_⟩
      refine ⟨rfl, ⟨_, j.2⟩, _, rfl, _, rfl, _, rfl, ⟨_, j.2⟩, _, _, p, _, rfl, hp, j.2, room, fun G' l' j' => ?_⟩
      refine k _ _ ⟨j.1.trans l', ?_⟩ (l'.lst (Lo.mem j.2) e) (l'.tups (Lo.mem j.2)) ⟨fm[i], by simp [li2], rfl⟩
      rw [Nat.succ_mul, ← Nat.add_assoc]
      exact j'
    · have eacc : acc = (fm.map fun d => g (x + d.1) (y + d.2) p).map V.int := by
        apply List.ext_getElem?
        intro i
        by_cases hi : i < acc.length
        · have e1 : acc[i]? = some acc[i] := by simp [hi]
          obtain ⟨d, e2, e3⟩ := ho i _ e1
          rw [e1, e3, List.getElem?_map, List.getElem?_map, e2]
          rfl
        · rw [List.getElem?_eq_none (by omega), List.getElem?_eq_none (by simp; omega)]
      subst eacc
      refine ⟨_, rfl, D, _, rfl, SqL.of e, by simp; omega, fun ns' q2 pm st hq2 => ?_⟩
      have l2 : Lk m H G := (Lk.of s1).trans j.1
      have rl : r < (fm.map fun d => g (x + d.1) (y + d.2) p).length := by simpa using hr2
      have s2 := Same.new (o := .lst (ns'.map V.int)) hq2
      refine ⟨_, rfl, _, _, _, _, rfl, rfl, SqT.of ((l2.trans (Lk.of s2)).tups (Lo.mem hJ) _ _ ha), atI_nat (j := 3) rfl, ?_⟩
      refine ⟨q2, _, _, _, rfl, rfl, SqL.of upd_same, atI_nat (v := V.int (rnk (fm.map fun d => g (x + d.1) (y + d.2) p) r)) (by rw [List.getElem?_map, rnk_of pm st rl]; rfl), ?_⟩
      refine q _ (l2.trans (Lk.of s2)) ?_
      have z := Lo.same j.2 s2
      rw [hal] at z
      exact z
end
end K22
end
section
/-! ### the kinds of stages -/
namespace K22
open PySem PySem.Spec PyProof.Rows L2 LamX
inductive Stg where
  | src (p : Pic) (b : V) (wd hg : Nat)
  | crv (nm : Str) (ts : List Int)
  | rnk (nm : Str) (fm : List (Int × Int)) (r : Nat)
namespace Stg
def parts : Stg → List Str
  | .src _ _ _ _ => []
  | .crv nm _ => [nm]
  | .rnk nm _ _ => [nm]
def kind : Stg → Str
  | .src _ _ _ _ => "source"
  | .crv _ _ => "curved"
  | .rnk _ _ _ => "ranked"
end Stg
def StgAt (K : PySem.W.Frag) (H : Hp) (a : Addr) : Stg → Prop
  | .src p b _ _ => SrcAt K H a p b
  | .crv nm ts => CrvAt H a nm ts
  | .rnk nm fm r => RnkAt H a nm fm r
def OkStg (np dp : Nat) : Stg → Prop
  | .src p b wd hg => OkPic np wd hg p ∧ p.depth = dp ∧ OkBd b dp
  | .crv nm ts => OkName nm ∧ OkTab dp ts
  | .rnk nm fm r => OkName nm ∧ OkForm fm ∧ r < fm.length
theorem StgAt.mono {K : PySem.W.Frag} {H H' : Hp} {a : Addr} {st : Stg} (h : StgAt K H a st) (k : Kp K H H') : StgAt K H' a st := by
  cases st with
  | src p b wd hg => exact SrcAt.mono h k
  | crv nm ts => exact CrvAt.mono h k.tups
  | rnk nm fm r => exact RnkAt.mono h k.tups
/-- the stage's tuple -/
theorem StgAt.tup {K : PySem.W.Frag} {H : Hp} {a : Addr} {st : Stg} (h : StgAt K H a st) : ∃ xs, H a = some (.tup (.str st.kind :: xs)) := by
  cases st with
  | src p b wd hg => obtain ⟨pa, e, _⟩ := h.ex; exact ⟨_, e⟩
  | crv nm ts => obtain ⟨pa, e, _⟩ := h.ex; exact ⟨_, e⟩
  | rnk nm fm r => obtain ⟨pa, e, _⟩ := h.ex; exact ⟨_, e⟩
def rowV (K : PySem.W.Frag) : Stg → List V
  | .src _ _ _ _ => [.int 0, .int 3, .ref (He.ga K "is_source"), .ref (He.ga K "shape_of_source"), .ref (He.ga K "cells_of_source"), .ref (He.ga K "tell_source")]
  | .crv _ _ => [.int 1, .int 4, .ref (He.ga K "is_curved"), .ref (He.ga K "shape_of_curved"), .ref (He.ga K "cells_of_own"), .ref (He.ga K "tell_curved")]
  | .rnk _ _ _ => [.int 1, .int 4, .ref (He.ga K "is_ranked"), .ref (He.ga K "same_shape"), .ref (He.ga K "cells_of_ranked"), .ref (He.ga K "tell_ranked")]
def rInKd (K : PySem.W.Frag) (w : World) : R2 := fun x y H Q => ∃ d z es n r, x = .str z ∧ y = .ref d ∧ KDict K w d es n ∧ PySem.W.nsIn K d z = some r ∧ Q (.bl r.isSome) H
theorem op_inKd {X : Cx} : OpR X (compareOp .In) (rInKd X.K X.w) := by
  intro pins s σ H x y v u Q I rx ry h
  obtain ⟨d, z, es, n, r, rfl, rfl, D, e, q⟩ := h
  exact op_in_kd D pins s σ H _ _ v u Q I rx ry ⟨z, r, rfl, rfl, e, q⟩
theorem kdct_of {K : PySem.W.Frag} {w : World} {d : Addr} {es : Array DictEntry} {n : Nat} {z : Str} {a : Addr} (D : KDict K w d es n) (e : PySem.W.nsIn K d z = some (some (.ref a))) : KDct K w d z (.ref a) :=
  ⟨es, n, _, D.at_, D.lit, e, rfl⟩
section
variable {P : Program} {w : World} {K : PySem.W.Frag} {mg : Str → Option Value} {base : Heap}
theorem kinds_ne : (("source" : Str) ≠ "ranked") ∧ (("curved" : Str) ≠ "ranked") := by decide
/-! row_of -/
def spRow (K : PySem.W.Frag) : Sp := fun vs H Q _ => ∃ st : Stg, vs = [.str st.kind] ∧ ∀ a, (∀ H', SqT K H' a (rowV K st)) → Q (.ref a) H
theorem sc_row_of : FnScope ["kind", "table"] ["kind"] (defScope s_row_of) := ⟨rfl, rfl, rfl, by decide +kernel, rfl, by decide +kernel, by decide +kernel⟩
theorem ok_row_of (T : Fx K mg w) : Cal P w K mg base 1 "row_of" (spRow K) [] := by
  refine cal_of T.d_row_of sc_row_of (fun _ _ _ _ _ _ us hl => match us, hl with | [_], _ => rfl) (fun vs H Q E h => ?_) (fun cdv A outer s H vs Q E hr h => ?_)
  · obtain ⟨st, rfl, _⟩ := h
    rfl
  · refine ⟨_, (pss_cons (ps_for PassesOwn.never rfl (pi_tupK (K := K) rfl (C8.pe_gc rfl T.c_TABLES)) (pg_name (i := 1) sc_row_of.nd rfl (Or.inl rfl)) (pss_one (ps_if (pt_cmpR op_inKd (pv 0) (pv 1) (by rfl)) (pss_one (ps_ret (pe_ix ix_kdict (pv 1) (pv 0) (fun _ _ => rfl)))) pss_nil)))
      (pss_one (ps_ret pe_non))), ?_⟩
    obtain ⟨st, rfl, q⟩ := h
    obtain ⟨e1, n1, D1⟩ := T.kd_GEOMETRY
    obtain ⟨e2, n2, D2⟩ := T.kd_COLOURS
    obtain ⟨e3, n3, D3⟩ := T.kd_FILTERS
    obtain ⟨a1, s1, r1⟩ := T.row_source
    obtain ⟨a2, s2, r2⟩ := T.row_curved
    obtain ⟨a3, s3, r3⟩ := T.row_ranked
    refine ⟨He.ga K "TABLES", rfl, ⟨_, T.TABLES_ H⟩, ?_⟩
    refine ⟨fun i m σ H' => m = 5 - i ∧ i ≤ 2 ∧ (i = 0 ∨ st.kind = "ranked") ∧ H' = H ∧ ∃ o, σ = [some (.str st.kind), o], ⟨_, rfl, by omega, Or.inl rfl, rfl, _, rfl⟩, ?_⟩
    rintro i m σ H' ⟨rfl, hi, hk, rfl, o, rfl⟩
    have tb := T.TABLES_ H'
    have turn : ∀ (t : Addr), [V.ref (He.ga K "GEOMETRY"), .ref (He.ga K "COLOURS"), .ref (He.ga K "FILTERS"), .ref (He.ga K "MEANS"), .ref (He.ga K "SUMS")][i]? = some (.ref t) → ∃ es n, KDict K w t es n ∧ ((∃ a, PySem.W.nsIn K t st.kind = some (some (.ref a)) ∧ ∀ H, SqT K H a (rowV K st)) ∨ (PySem.W.nsIn K t st.kind = some none ∧ i + 1 ≤ 2 ∧ st.kind = "ranked")) := by
      intro t et
      cases st with
      | src p b wd hg =>
        rcases hk with rfl | hk
        · cases et
          exact ⟨_, _, D1, Or.inl ⟨a1, s1, r1⟩⟩
        · exact absurd (show _ = _ from hk) kinds_ne.1
      | crv nm ts =>
        rcases hk with rfl | hk
        · cases et
          exact ⟨_, _, D1, Or.inl ⟨a2, s2, r2⟩⟩
        · exact absurd (show _ = _ from hk) kinds_ne.2
      | rnk nm fm r =>
        match i, hi with
        | 0, _ => cases et; exact ⟨_, _, D1, Or.inr ⟨T.no_GEOMETRY, by omega, rfl⟩⟩
        | 1, _ => cases et; exact ⟨_, _, D2, Or.inr ⟨T.no_COLOURS, by omega, rfl⟩⟩
        | 2, _ => cases et; exact ⟨_, _, D3, Or.inl ⟨a3, s3, r3⟩⟩
    have lt : i < 5 := by omega
    obtain ⟨t, et⟩ : ∃ t, [V.ref (He.ga K "GEOMETRY"), .ref (He.ga K "COLOURS"), .ref (He.ga K "FILTERS"), .ref (He.ga K "MEANS"), .ref (He.ga K "SUMS")][i]? = some (.ref t) := by
      match i, hi with
      | 0, _ => exact ⟨_, rfl⟩
      | 1, _ => exact ⟨_, rfl⟩
      | 2, _ => exact ⟨_, rfl⟩
    obtain ⟨es, n, D, h⟩ := turn t et
    refine Or.inr ⟨⟨_, _, tb, et⟩, fun σ' G => i + 1 ≤ 2 ∧ st.kind = "ranked" ∧ G = H' ∧ ∃ o, σ' = [some (.str st.kind), o], fun σ' G p => ⟨_, by omega, rfl, p.1, Or.inr p.2.1, p.2.2⟩, fun x G y => ?_⟩
    obtain ⟨rfl, y⟩ := y
    have ex := y _ tb
    rw [et] at ex
    cases ex
    rcases h with ⟨a, e, r⟩ | ⟨e, l2, ek⟩
    · refine ⟨_, rfl, _, rfl, t, _, es, n, _, rfl, rfl, D, e, _, rfl, ?_⟩
      refine ⟨_, rfl, _, rfl, t, _, _, rfl, rfl, kdct_of D e, q a r⟩
    · refine ⟨_, rfl, _, rfl, t, _, es, n, _, rfl, rfl, D, e, _, rfl, ?_⟩
      exact ⟨l2, ek, rfl, _, rfl⟩
/-! has_no_divisor -/
def spDiv (K : PySem.W.Frag) : Sp := fun vs H Q _ => ∃ a, ∃ st : Stg, vs = [.ref a] ∧ StgAt K H a st ∧ Q (.bl false) H
theorem sc_has_no_divisor : FnScope ["stage"] ["stage"] (defScope s_has_no_divisor) := ⟨rfl, rfl, rfl, by decide +kernel, rfl, by decide +kernel, by decide +kernel⟩
theorem ok_has_no_divisor (T : Fx K mg w) : Cal P w K mg base 1 "has_no_divisor" (spDiv K) [] := by
  refine cal_of T.d_has_no_divisor sc_has_no_divisor (fun _ _ _ _ _ _ us hl => match us, hl with | [_], _ => rfl) (fun vs H Q E h => ?_) (fun cdv A outer s H vs Q E hr h => ?_)
  · obtain ⟨a, st, rfl, _⟩ := h
    rfl
  · refine ⟨_, (pss_one (ps_ret (pe_and (pe_cmpR op_inKd (pe_ix (ix_tupK (K := K) rfl) (pv 0) pe_int (fun _ _ => rfl)) (C8.pe_gc rfl T.c_PLACES_OF_BY) (by rfl)) (pe_one (pe_cmpR op_eq (pe_ix (ix_tupK (K := K) rfl) (pv 0) (pe_ix ix_kdict (C8.pe_gc rfl T.c_PLACES_OF_BY) (pe_ix (ix_tupK (K := K) rfl) (pv 0) pe_int (fun _ _ => rfl)) (fun _ _ => rfl)) (fun _ _ => rfl)) pe_int (nomark _)))))), ?_⟩
    obtain ⟨a, st, rfl, hst, q⟩ := h
    obtain ⟨xs, ha⟩ := hst.tup
    obtain ⟨es, n, D⟩ := T.kd_PLACES_OF_BY
    have e : PySem.W.nsIn K (He.ga K "PLACES_OF_BY") st.kind = some none := by
      cases st with
      | src p b wd hg => exact T.by_source
      | crv nm ts => exact T.by_curved
      | rnk nm fm r => exact T.by_ranked
    exact ⟨_, rfl, _, _, _, _, rfl, rfl, SqT.of (ha), atI_nat (j := 0) rfl, _, _, es, n, _, rfl, rfl, D, e, _, rfl, q⟩
/-! made_of -/
def spMade (K : PySem.W.Frag) : Sp := fun vs H Q _ => ∃ a, ∃ st : Stg, vs = [.ref a] ∧ StgAt K H a st ∧ ∀ H' l, Same H H' → H l = none → H' l = some (.lst (st.parts.map V.str)) → Q (.ref l) H'
theorem sc_made_of : FnScope ["stage"] ["stage"] (defScope s_made_of) := ⟨rfl, rfl, rfl, by decide +kernel, rfl, by decide +kernel, by decide +kernel⟩
theorem ok_made_of (T : Fx K mg w) : Cal P w K mg base 2 "made_of" (spMade K) [] := by
  have c_row_of : Cal P w K mg base 1 "row_of" (spRow K) [] := ok_row_of T
  refine cal_of T.d_made_of sc_made_of (fun _ _ _ _ _ _ us hl => match us, hl with | [_], _ => rfl) (fun vs H Q E h => ?_) (fun cdv A outer s H vs Q E hr h => ?_)
  · obtain ⟨a, st, rfl, _⟩ := h
    rfl
  · refine ⟨_, (pss_one (ps_ret (pe_callTy call_list_of (by rfl) T.f_list (by decide +kernel) (pa_cons (pe_slice sl_tup (pv 0) (po_some pe_int) (po_some (pe_op op_add pe_int (pe_ix (ix_tupK (K := K) rfl) (pe_c c_row_of hr (by omega) rfl (pa_cons (pe_ix (ix_tupK (K := K) rfl) (pv 0) pe_int (fun _ _ => rfl)) pa_nil)) pe_int (fun _ _ => rfl))))) pa_nil)))), ?_⟩
    obtain ⟨a, st, rfl, hst, q⟩ := h
    obtain ⟨xs, ha⟩ := hst.tup
    cases st with
    | src p b wd hg =>
      obtain ⟨pa, e, _⟩ := hst.ex
      refine ⟨_, rfl, 1, rfl, _, rfl, _, _, _, _, rfl, rfl, SqT.of (ha), atI_nat (j := 0) rfl, .src p b wd hg, rfl, fun ra hra => ?_⟩
      refine ⟨ra, _, _, _, rfl, rfl, hra H, atI_nat (j := 0) rfl, _, _, rfl, rfl, _, rfl, a, _, rfl, SqT.of e, (show ¬ (HT.sIx 3 0 (some 1) = 0 ∧ HT.sIx 3 3 (some (1 + 0)) = 3) from by decide), fun t ht => ?_⟩
      refine ⟨t, _, rfl, Or.inr (SqT.of upd_same), fun l hl => ?_⟩
      have s1 : Same H _ := (Same.new (o := .tup (cutV [V.str "source", .ref pa, b] (some 1) (some (1 + 0)))) ht)
      refine q _ l (s1.trans (Same.new hl)) ?_ ?_
      · cases z : H l with
        | none => rfl
        | some o => rw [s1 _ _ z] at hl; cases hl
      · exact upd_same
    | crv nm ts =>
      obtain ⟨pa, e, _⟩ := hst.ex
      refine ⟨_, rfl, 1, rfl, _, rfl, _, _, _, _, rfl, rfl, SqT.of (ha), atI_nat (j := 0) rfl, .crv nm ts, rfl, fun ra hra => ?_⟩
      refine ⟨ra, _, _, _, rfl, rfl, hra H, atI_nat (j := 0) rfl, _, _, rfl, rfl, _, rfl, a, _, rfl, SqT.of e, (show ¬ (HT.sIx 4 0 (some 1) = 0 ∧ HT.sIx 4 4 (some (1 + 1)) = 4) from by decide), fun t ht => ?_⟩
      refine ⟨t, _, rfl, Or.inr (SqT.of upd_same), fun l hl => ?_⟩
      have s1 : Same H _ := (Same.new (o := .tup (cutV [V.str "curved", .str nm, .ref pa, .non] (some 1) (some (1 + 1)))) ht)
      refine q _ l (s1.trans (Same.new hl)) ?_ ?_
      · cases z : H l with
        | none => rfl
        | some o => rw [s1 _ _ z] at hl; cases hl
      · exact upd_same
    | rnk nm fm r =>
      obtain ⟨pa, e, _⟩ := hst.ex
      refine ⟨_, rfl, 1, rfl, _, rfl, _, _, _, _, rfl, rfl, SqT.of (ha), atI_nat (j := 0) rfl, .rnk nm fm r, rfl, fun ra hra => ?_⟩
      refine ⟨ra, _, _, _, rfl, rfl, hra H, atI_nat (j := 0) rfl, _, _, rfl, rfl, _, rfl, a, _, rfl, SqT.of e, (show ¬ (HT.sIx 4 0 (some 1) = 0 ∧ HT.sIx 4 4 (some (1 + 1)) = 4) from by decide), fun t ht => ?_⟩
      refine ⟨t, _, rfl, Or.inr (SqT.of upd_same), fun l hl => ?_⟩
      have s1 : Same H _ := (Same.new (o := .tup (cutV [V.str "ranked", .str nm, .ref pa, .int r] (some 1) (some (1 + 1)))) ht)
      refine q _ l (s1.trans (Same.new hl)) ?_ ?_
      · cases z : H l with
        | none => rfl
        | some o => rw [s1 _ _ z] at hl; cases hl
      · exact upd_same
/-! shape_by -/
def spShape (K : PySem.W.Frag) (np dp : Nat) : Sp := fun vs H Q _ => ∃ a s, ∃ st : Stg, vs = [.ref a, .ref s] ∧ StgAt K H a st ∧ OkStg np dp st ∧ (st.parts ≠ [] → ∃ t rest, H s = some (.lst (.ref t :: rest)) ∧ ShpAt H t np dp) ∧ ∀ H' t, Same H H' → ShpAt H' t np dp → Q (.ref t) H'
theorem sc_shape_by : FnScope ["stage", "shapes", "shape"] ["stage", "shapes"] (defScope s_shape_by) := ⟨rfl, rfl, rfl, by decide +kernel, rfl, by decide +kernel, by decide +kernel⟩
theorem ok_shape_by (T : Fx K mg w) {np dp : Nat} : Cal P w K mg base 3 "shape_by" (spShape K np dp) [] := by
  have c_row_of : Cal P w K mg base 1 "row_of" (spRow K) [] := ok_row_of T
  refine cal_of T.d_shape_by sc_shape_by (fun _ _ _ _ _ _ us hl => match us, hl with | [_, _], _ => rfl) (fun vs H Q E h => ?_) (fun cdv A outer s H vs Q E hr h => ?_)
  · obtain ⟨a, s, st, rfl, _⟩ := h
    rfl
  · refine ⟨_, (pss_cons (ps_set (i := 2) sc_shape_by.nd rfl (Or.inl rfl) (pe_ix (ix_tupK (K := K) rfl) (pe_c c_row_of hr (by omega) rfl (pa_cons (pe_ix (ix_tupK (K := K) rfl) (pv 0) pe_int (fun _ _ => rfl)) pa_nil)) pe_int (fun _ _ => rfl)))
      (pss_one (ps_ret (pe_callF hr (i := 2) rfl (Or.inl rfl) (pa_cons (pv 0) (pa_cons (pv 1) pa_nil)))))), ?_⟩
    obtain ⟨a, s', st, rfl, hst, O, hs, q⟩ := h
    obtain ⟨xs, ha⟩ := hst.tup
    refine ⟨_, rfl, _, _, _, _, rfl, rfl, SqT.of (ha), atI_nat (j := 0) rfl, st, rfl, fun ra hra => ?_⟩
    cases st with
    | src p b wd hg =>
      obtain ⟨Op, ed, Ob⟩ := O
      refine ⟨ra, _, _, _, rfl, rfl, hra H, atI_nat (j := 3) rfl, ?_⟩
      refine ⟨_, _, rfl, ((ok_shape_of_source T).at_).mono (by omega), _, rfl, _, rfl, ?_⟩
      refine ⟨a, b, np, wd, hg, _, p, rfl, hst, Op.pl, by rw [ed]; exact Ob, fun t ht => ?_⟩
      refine q _ t (Same.new ht) ?_
      rw [ed]
      exact upd_same
    | crv nm ts =>
      obtain ⟨On, Ot⟩ := O
      obtain ⟨t0, rest, h1, h2⟩ := hs (by simp [Stg.parts])
      refine ⟨ra, _, _, _, rfl, rfl, hra H, atI_nat (j := 3) rfl, ?_⟩
      refine ⟨_, _, rfl, ((ok_shape_of_curved T).at_).mono (by omega), _, rfl, _, rfl, ?_⟩
      exact ⟨a, nm, ts, dp, np, s', t0, rest, rfl, hst, Ot, h1, h2, fun t ht => q _ t (Same.new ht) upd_same⟩
    | rnk nm fm r =>
      obtain ⟨t0, rest, h1, h2⟩ := hs (by simp [Stg.parts])
      refine ⟨ra, _, _, _, rfl, rfl, hra H, atI_nat (j := 3) rfl, ?_⟩
      refine ⟨_, _, rfl, ((ok_same_shape T).at_).mono (by omega), _, rfl, _, rfl, ?_⟩
      exact ⟨_, s', _, rest, rfl, h1, q H t0 (fun _ _ e => e) h2⟩
theorem stage_row {H : Hp} {a : Addr} {st : Stg} {xs : List V} (h : StgAt K H a st) (ha : H a = some (.tup (.str st.kind :: xs))) :
    ∃ (k : Int) (ln : Int) (ff : Addr) (rest : List V), rowV K st = .int k :: .int ln :: .ref ff :: rest ∧ ((V.str st.kind :: xs).length : Int) = ln ∧
      ¬ (HT.sIx (V.str st.kind :: xs).length 0 (some 1) = 0 ∧ HT.sIx (V.str st.kind :: xs).length (V.str st.kind :: xs).length (some (1 + k)) = (V.str st.kind :: xs).length) ∧ cutV (V.str st.kind :: xs) (some 1) (some (1 + k)) = st.parts.map V.str := by
  cases st with
  | src p b wd hg =>
    obtain ⟨pa, e, _⟩ := h.ex
    rw [ha] at e
    cases e
    exact ⟨0, 3, _, _, rfl, rfl, (show ¬ (HT.sIx 3 0 (some 1) = 0 ∧ HT.sIx 3 3 (some (1 + 0)) = 3) from by decide), rfl⟩
  | crv nm ts =>
    obtain ⟨pa, e, _⟩ := h.ex
    rw [ha] at e
    cases e
    exact ⟨1, 4, _, _, rfl, rfl, (show ¬ (HT.sIx 4 0 (some 1) = 0 ∧ HT.sIx 4 4 (some (1 + 1)) = 4) from by decide), rfl⟩
  | rnk nm fm r =>
    obtain ⟨pa, e, _⟩ := h.ex
    rw [ha] at e
    cases e
    exact ⟨1, 4, _, _, rfl, rfl, (show ¬ (HT.sIx 4 0 (some 1) = 0 ∧ HT.sIx 4 4 (some (1 + 1)) = 4) from by decide), rfl⟩
/-! is_stage -/
def spIsStage (K : PySem.W.Frag) (np dp : Nat) : Sp := fun vs H Q _ => ∃ a, ∃ st : Stg, vs = [.ref a] ∧ StgAt K H a st ∧ OkStg np dp st ∧ ∀ H', Same H H' → Q (.bl true) H'
theorem sc_is_stage : FnScope ["thing", "row", "has_form", "name"] ["thing"] (defScope s_is_stage) := ⟨rfl, rfl, rfl, by decide +kernel, rfl, by decide +kernel, by decide +kernel⟩
theorem ok_is_stage (T : Fx K mg w) {np dp : Nat} (hdp : dp ≤ 65535) : Cal P w K mg base 7 "is_stage" (spIsStage K np dp) [] := by
  have c_row_of : Cal P w K mg base 1 "row_of" (spRow K) [] := ok_row_of T
  have c_is_name : Cal P w K mg base 1 "is_name" spName [] := ok_is_name T
  refine cal_of T.d_is_stage sc_is_stage (fun _ _ _ _ _ _ us hl => match us, hl with | [_], _ => rfl) (fun vs H Q E h => ?_) (fun cdv A outer s H vs Q E hr h => ?_)
  · obtain ⟨a, st, rfl, _⟩ := h
    rfl
  · refine ⟨_, (pss_cons (ps_if (PW.pt (pw_or (pt_not (pt_val (pe_callB (id := "isinstance") (cr_isiK (K := K) rfl) (by rfl) T.f_isinstance (by decide +kernel) (pa_cons (pv 0) (pa_cons (pe_bltn (v := .ty "tuple") (by rfl) T.f_tuple (by decide +kernel) rfl) pa_nil))))) (pw_or (pt_cmpR op_eq (pe_callB (id := "len") (cr_lenK (K := K) rfl) (by rfl) T.f_len (by decide +kernel) (pa_cons (pv 0) pa_nil)) pe_int (nomark _)) (pw_or1 (pt_not (pt_val (pe_callB (id := "isinstance") (cr_isiK (K := K) rfl) (by rfl) T.f_isinstance (by decide +kernel) (pa_cons (pe_ix (ix_tupK (K := K) rfl) (pv 0) pe_int (fun _ _ => rfl)) (pa_cons (pe_bltn (v := .ty "str") (by rfl) T.f_str (by decide +kernel) rfl) pa_nil))))))))) (pss_one (ps_ret pe_bl)) pss_nil)
      (pss_cons (ps_set (i := 1) sc_is_stage.nd rfl (Or.inl rfl) (pe_c c_row_of hr (by omega) rfl (pa_cons (pe_ix (ix_tupK (K := K) rfl) (pv 0) pe_int (fun _ _ => rfl)) pa_nil)))
      (pss_cons (ps_if (PW.pt (pw_or (pt_cmpR op_isN (pv 1) pe_non (nomark _)) (pw_or1 (pt_cmpR op_ne (pe_callB (id := "len") (cr_lenK (K := K) rfl) (by rfl) T.f_len (by decide +kernel) (pa_cons (pv 0) pa_nil)) (pe_ix (ix_tupK (K := K) rfl) (pv 1) pe_int (fun _ _ => rfl)) (nomark _))))) (pss_one (ps_ret pe_bl)) pss_nil)
      (pss_cons (ps_set (i := 2) sc_is_stage.nd rfl (Or.inl rfl) (pe_ix (ix_tupK (K := K) rfl) (pv 1) pe_int (fun _ _ => rfl)))
      (pss_one (ps_ret (pe_and (pe_callB (id := "all") (cr_allK (K := K) rfl rfl) (by rfl) T.f_all (by decide +kernel) (pa_cons (pe_lc (own := [("name", 3)]) rfl sc_is_stage.nd (pi_tupK (K := K) rfl (pe_slice sl_tup (pv 0) (po_some pe_int) (po_some (pe_op op_add pe_int (pe_ix (ix_tupK (K := K) rfl) (pv 1) pe_int (fun _ _ => rfl)))))) (blkOk_by (N := ["thing", "row", "has_form", "name"]) (sc := defScope s_is_stage) (by decide +kernel)) (fun _ _ _ _ _ => (pg_name (i := 3) sc_is_stage.nd rfl (by first | exact Or.inl rfl | exact Or.inr rfl))) (fun _ _ _ _ _ => pts_nil) (fun _ _ _ _ _ => (pe_c c_is_name hr (by omega) rfl (pa_cons (pv 3) pa_nil)))) pa_nil)) (pe_one (pe_callF hr (i := 2) rfl (Or.inl rfl) (pa_cons (pv 0) pa_nil)))))))))), ?_⟩
    obtain ⟨a, st, rfl, hst, O, q⟩ := h
    obtain ⟨xs, ha⟩ := hst.tup
    refine ⟨_, rfl, .ref _, .ty "tuple", .type "tuple", .type "tuple", true, rfl, .ty _, .base (.tup (ha)), kit_ty (by decide +kernel), true, rfl, iteF ?_⟩
    refine ⟨_, rfl, .ref _, _, rfl, Or.inr ⟨_, SqT.of (ha), rfl⟩, rfl, _, rfl, if_Bf (by simp; omega) ?_⟩
    refine ⟨_, rfl, _, _, _, _, rfl, rfl, SqT.of (ha), atI_nat (j := 0) rfl, .str _, .ty "str", .type "str", .type "str", true, rfl, .ty _, .base (.str _), kit_ty (by decide +kernel), true, rfl, iteF ?_⟩
    refine ⟨_, rfl, _, _, _, _, rfl, rfl, SqT.of (ha), atI_nat (j := 0) rfl, st, rfl, fun ra hra => ?_⟩
    obtain ⟨k, ln, ff, rest, er, el, es, ec⟩ := stage_row hst ha
    have hr0 := hra H
    rw [er] at hr0
    refine ⟨_, rfl, rfl, _, rfl, if_Bf (by simp) ?_⟩
    refine ⟨_, rfl, .ref _, _, rfl, Or.inr ⟨_, SqT.of (ha), rfl⟩, _, rfl, _, _, _, _, rfl, rfl, hr0, atI_nat (j := 1) rfl, rfl, _, rfl, if_nottrue (by rw [el]) ?_⟩
    refine ⟨_, rfl, _, _, _, _, rfl, rfl, hr0, atI_nat (j := 2) rfl, ?_⟩
    refine ⟨_, rfl, 1, rfl, _, rfl, _, _, _, _, rfl, rfl, hr0, atI_nat (j := 0) rfl, _, _, rfl, rfl, _, rfl, a, _, rfl, SqT.of ha, es, fun t ht => ?_⟩
    rw [ec]
    have s1 : Same H (upd H t (.tup (st.parts.map V.str))) := Same.new ht
    refine ⟨t, rfl, ⟨_, SqT.of upd_same⟩, fun D hD => ?_⟩
    have np1 : st.parts.length ≤ 1 := by cases st <;> simp [Stg.parts]
    refine lc_tupG (xs := st.parts.map V.str) (fun H' => Same (upd H t (.tup (st.parts.map V.str))) H') (fun _ y _ => y = .bl true) (Same.new hD) (fun H' j => j.sqt (SqT.of upd_same)) (fun H' acc acc' j e => j.to' hD) (fun _ _ _ _ _ h => h) (by simp; omega) (fun i x H' acc Fin hx j e k => ?_) fun H1 acc j e _ ho => ?_
    · obtain ⟨nm, hnm, rfl⟩ : ∃ nm, nm ∈ st.parts ∧ x = V.str nm := by
        obtain ⟨n, h1, h2⟩ := List.mem_map.mp (List.mem_of_getElem? hx)
        exact ⟨n, h1, h2.symm⟩
      have okn : OkName nm := by
        cases st with
        | src p b wd hg => simp [Stg.parts] at hnm
        | crv n2 ts => simp [Stg.parts] at hnm; subst hnm; exact O.1
        | rnk n2 fm r => simp [Stg.parts] at hnm; subst hnm; exact O.1
      refine ⟨rfl, _, rfl, nm, rfl, okn, fun H2 s2 => ?_⟩
      exact k _ _ (j.trans s2) (s2 _ _ e) (TupS.of s2) rfl
    refine ⟨_, _, rfl, all_sq e ho, _, rfl, if_B (all_true _) ?_⟩
    have s3 : Same H H1 := s1.trans j
    have hst1 : StgAt K H1 a st := hst.mono (Kp.of s3)
    cases st with
    | src p b wd hg =>
      cases er
      obtain ⟨Op, ed, Ob⟩ := O
      refine ⟨_, _, rfl, ((ok_is_source T).at_).mono (by omega), _, rfl, a, b, p, rfl, hst1, ?_, q _ s3⟩
      rcases Ob with h | ⟨i, e1, e2, e3⟩
      · exact Or.inl h
      · exact Or.inr ⟨i, e1, e2, by omega⟩
    | crv nm ts =>
      cases er
      obtain ⟨On, Ot⟩ := O
      exact ⟨_, _, rfl, ((ok_is_curved T).at_).mono (by omega), _, rfl, a, nm, ts, dp, rfl, hst1, Ot, fun H' s' => q _ (s3.trans s')⟩
    | rnk nm fm r =>
      cases er
      obtain ⟨On, Of, Or⟩ := O
      exact ⟨_, _, rfl, ((ok_is_ranked T).at_).mono (by omega), _, rfl, a, nm, fm, r, rfl, hst1, Of, Or, fun H' s' => q _ (s3.trans s')⟩
end
end K22
end
section
/-! ### what a stage tells -/
namespace K22
open PySem PySem.Spec PyProof.Rows L2 LamX
def tellV (st : Stg) (g : Int → Int → Nat → Int) (x y : Int) (p : Nat) : Int :=
  match st with
  | .src pic b wd hg => srcV wd hg pic b x y p
  | .crv _ ts => ts.getD (g x y p).toNat 0
  | .rnk _ fm r => rnk (fm.map fun d => g (x + d.1) (y + d.2) p) r
section
variable {P : Program} {w : World} {K : PySem.W.Frag} {mg : Str → Option Value} {base : Heap}
/-! told_by -/
def spTold (P : Program) (w : World) (K : PySem.W.Frag) (mg : Str → Option Value) (base : Heap) (k : Nat) : Sp := fun vs H Q _ => ∃ a s f x y m J g np dp c lim, ∃ st : Stg, ∃ p n : Nat, vs = [.ref a, s, .ref f, .int x, .int y, .int p] ∧ StgAt K H a st ∧ OkStg np dp st ∧ p < np ∧ J n H ∧
  (∀ {n H H'}, J n H → Same H H' → J n H') ∧ (∀ {n n' H}, J n H → n ≤ n' → J n' H) ∧
  (st.parts ≠ [] → LookOk P w K mg base k f m J g np c lim ∧ n + 25 * c ≤ lim ∧ ∀ x y (p : Nat), p < np → 0 ≤ g x y p ∧ g x y p ≤ dp) ∧
  ∀ H', Lk m H H' → J (n + 25 * c) H' → Q (.int (tellV st g x y p)) H'
theorem sc_told_by : FnScope ["stage", "shapes", "look", "x", "y", "plane", "tell"] ["stage", "shapes", "look", "x", "y", "plane"] (defScope s_told_by) := ⟨rfl, rfl, rfl, by decide +kernel, rfl, by decide +kernel, by decide +kernel⟩
theorem ok_told_by (T : Fx K mg w) {k : Nat} : Cal P w K mg base (k + 4) "told_by" (spTold P w K mg base k) [] := by
  have c_row_of : Cal P w K mg base 1 "row_of" (spRow K) [] := ok_row_of T
  refine cal_of T.d_told_by sc_told_by (fun _ _ _ _ _ _ us hl => match us, hl with | [_, _, _, _, _, _], _ => rfl) (fun vs H Q E h => ?_) (fun cdv A outer s H vs Q E hr h => ?_)
  · obtain ⟨a, s, f, x, y, m, J, g, np, dp, c, lim, st, p, n, rfl, _⟩ := h
    rfl
  · refine ⟨_, (pss_cons (ps_set (i := 6) sc_told_by.nd rfl (Or.inl rfl) (pe_ix (ix_tupK (K := K) rfl) (pe_c c_row_of hr (by omega) rfl (pa_cons (pe_ix (ix_tupK (K := K) rfl) (pv 0) pe_int (fun _ _ => rfl)) pa_nil)) pe_int (fun _ _ => rfl)))
      (pss_one (ps_ret (pe_callF hr (i := 6) rfl (Or.inl rfl) (pa_cons (pv 0) (pa_cons (pv 1) (pa_cons (pv 2) (pa_cons (pv 3) (pa_cons (pv 4) (pa_cons (pv 5) pa_nil)))))))))), ?_⟩
    obtain ⟨a, s, f, x, y, m, J, g, np, dp, c, lim, st, p, n, rfl, hst, O, hp, hJ, Js, Jm, hl, q⟩ := h
    obtain ⟨xs, ha⟩ := hst.tup
    refine ⟨_, rfl, _, _, _, _, rfl, rfl, SqT.of (ha), atI_nat (j := 0) rfl, st, rfl, fun ra hra => ?_⟩
    cases st with
    | src pic b wd hg =>
      obtain ⟨Op, ed, Ob⟩ := O
      refine ⟨ra, _, _, _, rfl, rfl, hra H, atI_nat (j := 5) rfl, ?_⟩
      refine ⟨_, _, rfl, ((ok_tell_source T).at_).mono (by omega), _, rfl, _, rfl, _, rfl, _, rfl, _, rfl, _, rfl, ?_⟩
      refine ⟨a, b, np, wd, hg, _, _, x, y, p, pic, rfl, hst, Op.pl, by rw [ed]; exact Ob, hp, fun H' s' => q H' (Lk.of s') (Jm (Js hJ s') (by omega))⟩
    | crv nm ts =>
      obtain ⟨On, Ot⟩ := O
      obtain ⟨Lo, lm, gr⟩ := hl (by simp [Stg.parts])
      refine ⟨ra, _, _, _, rfl, rfl, hra H, atI_nat (j := 5) rfl, ?_⟩
      refine ⟨_, _, rfl, ((ok_tell_curved T (k := k)).at_).mono (by omega), _, rfl, _, rfl, _, rfl, _, rfl, _, rfl, _, rfl, ?_⟩
      exact ⟨a, nm, ts, dp, _, f, x, y, m, J, g, np, c, lim, p, n, rfl, Lo, hst, Ot, hp, hJ, by omega, (gr x y p hp).1, (gr x y p hp).2, fun H' l' j' => q H' l' (Jm j' (by omega))⟩
    | rnk nm fm r =>
      obtain ⟨On, Of, Or⟩ := O
      obtain ⟨Lo, lm, gr⟩ := hl (by simp [Stg.parts])
      have n2 := Of.n2
      have le : fm.length * c ≤ 25 * c := Nat.mul_le_mul_right c n2
      refine ⟨ra, _, _, _, rfl, rfl, hra H, atI_nat (j := 5) rfl, ?_⟩
      refine ⟨_, _, rfl, ((ok_tell_ranked T (k := k)).at_).mono (by omega), _, rfl, _, rfl, _, rfl, _, rfl, _, rfl, _, rfl, ?_⟩
      exact ⟨a, nm, fm, r, _, f, x, y, m, J, g, np, c, lim, p, n, rfl, Lo, hst, Of, Or, hp, hJ, by omega, fun H' l' j' => q H' l' (Jm j' (by omega))⟩
end
end K22
end
section
/-! ### nets, in plain Lean, and as they stand in dicts -/
namespace K22
open PySem PySem.Spec PyProof.Rows L2 LamX
abbrev Nt := List (Str × Stg)
def nms (e : Nt) : List Str := e.map (·.1)
def stg? (e : Nt) (nm : Str) : Option Stg := (e.find? fun q => decide (q.1 = nm)).map (·.2)
def putE (e : Nt) (nm : Str) (st : Stg) : Nt := if (e.any fun q => decide (q.1 = nm)) = true then e.map (fun q => if q.1 = nm then (q.1, st) else q) else e ++ [(nm, st)]
theorem stg_nil (j : Str) : stg? [] j = none := rfl
theorem stg_cons (q : Str × Stg) (e : Nt) (j : Str) : stg? (q :: e) j = if q.1 = j then some q.2 else stg? e j := by
  unfold stg?
  by_cases h : q.1 = j
  · simp [List.find?_cons, h]
  · simp [List.find?_cons, h]
theorem stg_mem {e : Nt} {nm : Str} : nm ∈ nms e ↔ ∃ st, stg? e nm = some st := by
  induction e with
  | nil => simp [nms, stg?]
  | cons q e ih =>
    rw [stg_cons]
    unfold nms at *
    rw [List.map_cons, List.mem_cons]
    by_cases h : q.1 = nm
    · simp [h]
    · rw [if_neg h, ← ih]
      exact ⟨fun z => z.elim (fun z => absurd z.symm h) id, Or.inr⟩
theorem any_mem {e : Nt} {nm : Str} : (e.any fun q => decide (q.1 = nm)) = true ↔ nm ∈ nms e := by
  unfold nms
  rw [List.any_eq_true]
  constructor
  · rintro ⟨q, h1, h2⟩
    exact List.mem_map.mpr ⟨q, h1, by simpa using h2⟩
  · intro h
    obtain ⟨q, h1, h2⟩ := List.mem_map.mp h
    exact ⟨q, h1, by simpa using h2⟩
theorem stg_map {k j : Str} {st : Stg} : ∀ e : Nt, stg? (e.map fun q => if q.1 = k then (q.1, st) else q) j = if j = k ∧ j ∈ nms e then some st else stg? e j
  | [] => by simp [stg?, nms]
  | q :: e => by
    rw [List.map_cons, stg_cons, stg_cons, stg_map e]
    unfold nms
    rw [List.map_cons]
    by_cases h1 : q.1 = k
    · by_cases h2 : q.1 = j
      · subst h1
        subst h2
        simp
      · have h3 : ¬ j = k := fun z => h2 (h1.trans z.symm)
        have h4 : ¬ k = j := fun z => h3 z.symm
        simp [h1, h3, h4]
    · by_cases h2 : q.1 = j
      · have h3 : ¬ j = k := fun z => h1 (h2.trans z)
        simp [h1, h2, h3]
      · have h4 : ¬ j = q.1 := fun z => h2 z.symm
        rw [if_neg h1, if_neg h2]
        by_cases c : j = k ∧ j ∈ e.map (·.1)
        · have c2 : j = k ∧ j ∈ q.1 :: e.map (·.1) := ⟨c.1, List.mem_cons_of_mem _ c.2⟩
          rw [if_pos c, if_pos c2]
        · have c2 : ¬ (j = k ∧ j ∈ q.1 :: e.map (·.1)) := fun z => c ⟨z.1, (List.mem_cons.mp z.2).resolve_left h4⟩
          rw [if_neg c, if_neg c2, if_neg h2]
theorem stg_put (e : Nt) (k j : Str) (st : Stg) : stg? (putE e k st) j = if j = k then some st else stg? e j := by
  unfold putE
  by_cases h : (e.any fun q => decide (q.1 = k)) = true
  · rw [if_pos h, stg_map]
    have hk := any_mem.mp h
    by_cases hj : j = k
    · subst hj
      simp [hk]
    · simp [hj]
  · rw [if_neg h]
    have hk : ¬ k ∈ nms e := fun z => h (any_mem.mpr z)
    clear h
    induction e with
    | nil =>
      rw [List.nil_append, stg_cons]
      by_cases hj : j = k
      · simp [hj]
      · have : ¬ k = j := fun z => hj z.symm
        simp [hj, this]
    | cons q e ih =>
      unfold nms at hk
      rw [List.map_cons, List.mem_cons, not_or] at hk
      rw [List.cons_append, stg_cons, stg_cons, ih hk.2]
      by_cases h2 : q.1 = j
      · have : ¬ j = k := fun z => hk.1 (z.symm.trans h2.symm)
        simp [h2, this]
      · simp [h2]
theorem nms_put (e : Nt) (k : Str) (st : Stg) : nms (putE e k st) = if k ∈ nms e then nms e else nms e ++ [k] := by
  unfold putE
  by_cases h : (e.any fun q => decide (q.1 = k)) = true
  · rw [if_pos h, if_pos (any_mem.mp h)]
    unfold nms
    rw [List.map_map]
    refine List.map_congr_left fun q _ => ?_
    show (if q.1 = k then (q.1, st) else q).1 = q.1
    split <;> rfl
  · rw [if_neg h, if_neg fun z => h (any_mem.mpr z)]
    unfold nms
    simp
/-! orders -/
def pz (e : Nt) (fs : List Str) (z : Str) : Bool := match stg? e z with
  | some st => st.parts.all fun p => decide (p ∈ fs)
  | none => false
def OkParts (e : Nt) (lv : Str → Nat) : Prop := ∀ nm st, stg? e nm = some st → ∀ p ∈ st.parts, p ∈ nms e ∧ lv p < lv nm
structure OrdI (e : Nt) (fs ls : List Str) : Prop where
  l : ls = (nms e).filter fun n => !decide (n ∈ fs)
  sub : ∀ n ∈ fs, n ∈ nms e
  top : ∀ (i : Nat) n st, fs[i]? = some n → stg? e n = some st → ∀ p ∈ st.parts, p ∈ fs.take i
  len : fs.length + ls.length ≤ e.length
theorem ord_start (e : Nt) : OrdI e [] (nms e) := by
  refine ⟨?_, fun n h => ?_, fun i n st h => ?_, ?_⟩
  · rw [List.filter_eq_self.mpr]
    intro a _
    simp
  · cases h
  · simp at h
  · unfold nms
    simp
theorem ord_done {e : Nt} {fs : List Str} (h : OrdI e fs []) : ∀ n ∈ nms e, n ∈ fs := by
  intro n hn
  have z := h.l
  by_cases m : n ∈ fs
  · exact m
  · have : n ∈ (nms e).filter fun n => !decide (n ∈ fs) := List.mem_filter.mpr ⟨hn, by simpa using m⟩
    rw [← z] at this
    cases this
theorem least_of (lv : Str → Nat) : ∀ l : List Str, l ≠ [] → ∃ n ∈ l, ∀ m ∈ l, lv n ≤ lv m
  | [], h => absurd rfl h
  | [x], _ => ⟨x, List.mem_cons_self, fun m hm => by rw [List.mem_singleton.mp hm]; exact Nat.le_refl _⟩
  | x :: y :: l, _ => by
    obtain ⟨n, h1, h2⟩ := least_of lv (y :: l) (by simp)
    by_cases c : lv x ≤ lv n
    · refine ⟨x, List.mem_cons_self, fun m hm => ?_⟩
      rcases List.mem_cons.mp hm with e | e
      · rw [e]; exact Nat.le_refl _
      · exact Nat.le_trans c (h2 m e)
    · refine ⟨n, List.mem_cons_of_mem _ h1, fun m hm => ?_⟩
      rcases List.mem_cons.mp hm with e | e
      · rw [e]; omega
      · exact h2 m e
theorem filter_two {α : Type} (p : α → Bool) : ∀ l : List α, (l.filter p).length + (l.filter fun x => !p x).length = l.length
  | [] => rfl
  | x :: l => by
    have ih := filter_two p l
    by_cases h : p x = true
    · simp [List.filter_cons, h]
      omega
    · simp [List.filter_cons, h]
      omega
theorem ord_step {e : Nt} {lv : Str → Nat} (ok : OkParts e lv) {fs ls : List Str} (h : OrdI e fs ls) (hn : ls ≠ []) :
    ls.filter (pz e fs) ≠ [] ∧ OrdI e (fs ++ ls.filter (pz e fs)) (ls.filter fun n => !decide (n ∈ ls.filter (pz e fs))) ∧ (ls.filter fun n => !decide (n ∈ ls.filter (pz e fs))).length < ls.length := by
  have inl : ∀ n, n ∈ ls ↔ n ∈ nms e ∧ ¬ n ∈ fs := by
    intro n
    rw [h.l, List.mem_filter]
    simp
  have ne : ls.filter (pz e fs) ≠ [] := by
    obtain ⟨n, h1, h2⟩ := least_of lv ls hn
    obtain ⟨st, hst⟩ := stg_mem.mp ((inl n).mp h1).1
    have : n ∈ ls.filter (pz e fs) := by
      refine List.mem_filter.mpr ⟨h1, ?_⟩
      unfold pz
      rw [hst]
      rw [List.all_eq_true]
      intro p hp
      rw [decide_eq_true_eq]
      by_cases m : p ∈ fs
      · exact m
      · obtain ⟨k1, k2⟩ := ok n st hst p hp
        have := h2 p ((inl p).mpr ⟨k1, m⟩)
        omega
    intro z
    rw [z] at this
    cases this
  have e1 : (ls.filter fun n => !decide (n ∈ ls.filter (pz e fs))) = ls.filter fun n => !pz e fs n := by
    refine List.filter_congr fun n hm => ?_
    have z : (n ∈ ls.filter (pz e fs)) ↔ pz e fs n = true := by
      rw [List.mem_filter]
      exact ⟨And.right, fun z => ⟨hm, z⟩⟩
    cases c : pz e fs n <;> simp [c, hm]
  have e2 := filter_two (pz e fs) ls
  have e3 : 0 < (ls.filter (pz e fs)).length := List.length_pos_iff.mpr ne
  refine ⟨ne, ⟨?_, fun n hm => ?_, fun i n st hi hst p hp => ?_, ?_⟩, by rw [e1]; omega⟩
  · rw [h.l, List.filter_filter]
    rw [← h.l]
    refine List.filter_congr fun n hm => ?_
    by_cases c1 : n ∈ fs
    · simp [c1]
    · by_cases c2 : n ∈ ls.filter (pz e fs)
      · have c3 : n ∈ fs ++ ls.filter (pz e fs) := List.mem_append_right _ c2
        rw [decide_eq_true c2, decide_eq_true c3]
        rfl
      · have c3 : ¬ n ∈ fs ++ ls.filter (pz e fs) := fun z => (List.mem_append.mp z).elim c1 c2
        rw [decide_eq_false c1, decide_eq_false c2, decide_eq_false c3]
        rfl
  · rcases List.mem_append.mp hm with z | z
    · exact h.sub n z
    · exact ((inl n).mp (List.mem_filter.mp z).1).1
  · by_cases c : i < fs.length
    · rw [List.getElem?_append_left c] at hi
      rw [List.take_append_of_le_length (by omega)]
      exact h.top i n st hi hst p hp
    · rw [List.getElem?_append_right (by omega)] at hi
      have hm := List.mem_of_getElem? hi
      have z := (List.mem_filter.mp hm).2
      unfold pz at z
      rw [hst] at z
      have z2 := List.all_eq_true.mp z p hp
      rw [decide_eq_true_eq] at z2
      rw [List.take_append]
      exact List.mem_append_left _ (by rw [List.take_of_length_le (by omega)]; exact z2)
  · rw [List.length_append, e1]
    have := h.len
    omega
/-! in dicts -/
def EntR (K : PySem.W.Frag) (H : Hp) (q : Key × V) (r : Str × Stg) : Prop := q.1 = Sum.inr r.1 ∧ ∃ a, q.2 = .ref a ∧ StgAt K H a r.2
def StagesAt (K : PySem.W.Frag) (H : Hp) (sd : Addr) (e : Nt) : Prop := ∃ kvs, H sd = some (.dK kvs) ∧ Paired (EntR K H) kvs e
theorem EntR.mono {K : PySem.W.Frag} {H H' : Hp} {q : Key × V} {r : Str × Stg} (h : EntR K H q r) (k : Kp K H H') : EntR K H' q r := by
  obtain ⟨h1, a, h2, h3⟩ := h
  exact ⟨h1, a, h2, h3.mono k⟩
theorem pr_imp {α β : Type} {F G : α → β → Prop} (h : ∀ a b, F a b → G a b) : ∀ {l : List α} {m : List β}, Paired F l m → Paired G l m
  | _, _, .nil => .nil
  | _, _, .cons a t => .cons (h _ _ a) (pr_imp h t)
theorem StagesAt.mono {K : PySem.W.Frag} {H H' : Hp} {sd : Addr} {e : Nt} (h : StagesAt K H sd e) (k : Kp K H H') : StagesAt K H' sd e := by
  obtain ⟨kvs, h1, h2⟩ := h
  exact ⟨kvs, k _ _ h1 trivial, pr_imp (fun _ _ z => z.mono k) h2⟩
theorem pr_len {α β : Type} {F : α → β → Prop} : ∀ {l : List α} {m : List β}, Paired F l m → l.length = m.length
  | _, _, .nil => rfl
  | _, _, .cons _ t => congrArg Nat.succ (pr_len t)
theorem ent_keys {K : PySem.W.Frag} {H : Hp} {kvs : List (Key × V)} {e : Nt} (h : Paired (EntR K H) kvs e) : (kvs.map fun kv => kV kv.1) = (nms e).map V.str := by
  induction h with
  | nil => rfl
  | cons a t ih =>
    unfold nms at *
    rw [List.map_cons, List.map_cons, List.map_cons, ih, a.1]
    rfl
theorem ent_get {K : PySem.W.Frag} {H : Hp} {kvs : List (Key × V)} {e : Nt} (h : Paired (EntR K H) kvs e) {nm : Str} {st : Stg} (hs : stg? e nm = some st) : ∃ a, valV kvs (Sum.inr nm) = some (.ref a) ∧ StgAt K H a st := by
  induction h with
  | nil => cases hs
  | @cons q r l m a t ih =>
    rw [stg_cons] at hs
    obtain ⟨h1, b, h2, h3⟩ := a
    by_cases c : r.1 = nm
    · rw [if_pos c] at hs
      cases hs
      exact ⟨b, by rw [valV_pos (h1.trans (by rw [c])), h2], h3⟩
    · rw [if_neg c] at hs
      obtain ⟨b', e1, e2⟩ := ih hs
      exact ⟨b', by rw [valV_neg (fun z => c (by rw [h1] at z; exact Sum.inr.inj z))]; exact e1, e2⟩
theorem ent_some {K : PySem.W.Frag} {H : Hp} {kvs : List (Key × V)} {e : Nt} (h : Paired (EntR K H) kvs e) {nm : Str} (hm : nm ∈ nms e) : (valV kvs (Sum.inr nm)).isSome = true := by
  obtain ⟨st, hs⟩ := stg_mem.mp hm
  obtain ⟨a, e1, _⟩ := ent_get h hs
  rw [e1]
  rfl
theorem ent_any {K : PySem.W.Frag} {H : Hp} {kvs : List (Key × V)} {e : Nt} (h : Paired (EntR K H) kvs e) (nm : Str) : (kvs.any fun kv => decide (kv.1 = Sum.inr nm)) = e.any fun q => decide (q.1 = nm) := by
  induction h with
  | nil => rfl
  | @cons q r l m a t ih =>
    rw [List.any_cons, List.any_cons, ih, a.1]
    congr 1
    rw [Bool.eq_iff_iff]
    simp
theorem ent_put {K : PySem.W.Frag} {H : Hp} {kvs : List (Key × V)} {e : Nt} (h : Paired (EntR K H) kvs e) {nm : Str} {st : Stg} {a : Addr} (ha : StgAt K H a st) : Paired (EntR K H) (putK kvs (Sum.inr nm) (.ref a)) (putE e nm st) := by
  unfold putK putE
  rw [ent_any h]
  by_cases c : (e.any fun q => decide (q.1 = nm)) = true
  · rw [if_pos c, if_pos c]
    clear c
    induction h with
    | nil => exact .nil
    | @cons q r l m b t ih =>
      rw [List.map_cons, List.map_cons]
      refine .cons ?_ ih
      obtain ⟨h1, b', h2, h3⟩ := b
      by_cases c : r.1 = nm
      · have e1 : q.1 = Sum.inr nm := by rw [h1, c]
        rw [if_pos e1, if_pos c]
        exact ⟨h1, a, rfl, ha⟩
      · have e1 : ¬ q.1 = Sum.inr nm := by
          intro z
          rw [h1] at z
          exact c (Sum.inr.inj z)
        rw [if_neg e1, if_neg c]
        exact ⟨h1, b', h2, h3⟩
  · rw [if_neg c, if_neg c]
    exact Paired.snoc h ⟨rfl, a, rfl, ha⟩
def ShapesAt (H : Hp) (hd : Addr) (ns : List Str) (np dp : Nat) : Prop := ∃ kvs, H hd = some (.dK kvs) ∧ ∀ nm ∈ ns, ∃ t, valV kvs (Sum.inr nm) = some (.ref t) ∧ ShpAt H t np dp
theorem ShapesAt.mono {K : PySem.W.Frag} {H H' : Hp} {hd : Addr} {ns : List Str} {np dp : Nat} (h : ShapesAt H hd ns np dp) (k : Kp K H H') : ShapesAt H' hd ns np dp := by
  obtain ⟨kvs, h1, h2⟩ := h
  refine ⟨kvs, k _ _ h1 trivial, fun nm hm => ?_⟩
  obtain ⟨t, e1, e2⟩ := h2 nm hm
  exact ⟨t, e1, k.tups _ _ e2⟩
end K22
end
section
/-! ### nets: orders, shapes -/
namespace K22
open PySem PySem.Spec PyProof.Rows L2 LamX
/-! lists of names -/
theorem strs_flat (ns : List Str) : (ns.map V.str).all flatV = true := by
  rw [List.all_eq_true]
  intro v hv
  obtain ⟨n, _, rfl⟩ := List.mem_map.mp hv
  rfl
theorem inV_str (z : Str) (ns : List Str) : inV (V.str z) (ns.map V.str) = decide (z ∈ ns) := by
  unfold inV
  rw [Bool.eq_iff_iff, List.any_eq_true, decide_eq_true_eq]
  constructor
  · rintro ⟨v, hv, e⟩
    obtain ⟨n, hn, rfl⟩ := List.mem_map.mp hv
    have : n = z := by simpa [eqV] using e
    rw [← this]
    exact hn
  · intro h
    exact ⟨V.str z, List.mem_map.mpr ⟨z, h, rfl⟩, by simp [eqV]⟩
theorem dp_strs {K : PySem.W.Frag} {H : Hp} : ∀ ns : List Str, DpAll K H (ns.map V.str) (ns.map PyData.str)
  | [] => .nil
  | x :: r => .cons (.str x) (dp_strs r)
def AllOk (ns : List Str) : Prop := ∀ n ∈ ns, OkName n
theorem okname_str {n : Str} (h : OkName n) : PyData.strOk n = true := by
  unfold PyData.strOk
  rw [← Array.all_toList, List.all_eq_true]
  intro c hc
  have := h.2.2 c hc
  have e : ("abcdefghijklmnopqrstuvwxyz" : Str).cps.toList.all (fun c => decide (c < 0x110000)) = true := by decide +kernel
  exact List.all_eq_true.mp e c this
theorem strs_shaped : ∀ ns : List Str, AllOk ns → SeqAt.shaped (.list (ns.map PyData.str)) = true := by
  intro ns h
  have a : ∀ ns : List Str, AllOk ns → PyData.canLayAll0 (ns.map PyData.str) = true := by
    intro ns h
    induction ns with
    | nil => simp [PyData.canLayAll0]
    | cons x r ih =>
      rw [List.map_cons]
      simp [PyData.canLayAll0, PyData.canLay0, okname_str (h x List.mem_cons_self), ih fun n hn => h n (List.mem_cons_of_mem _ hn)]
  have b : PyData.depthAll (ns.map PyData.str) ≤ 0 := by
    clear h
    induction ns with
    | nil => simp [PyData.depthAll]
    | cons x r ih =>
      rw [List.map_cons]
      simp only [PyData.depthAll, PyData.depth]
      omega
  unfold SeqAt.shaped
  rw [Bool.and_eq_true]
  refine ⟨by simp only [PyData.canLay0]; exact a ns h, decide_eq_true ?_⟩
  simp only [PyData.depth]
  omega
theorem strs_eqv_nil (ns : List Str) : PyData.eqv (.list (ns.map PyData.str)) (.list []) = decide (ns = []) := by
  cases ns with
  | nil => simp [PyData.eqv, PyData.eqvAll]
  | cons x r => simp [PyData.eqv, PyData.eqvAll]
section
variable {P : Program} {w : World} {K : PySem.W.Frag} {mg : Str → Option Value} {base : Heap}
/-! first_missing -/
def spFirst (K : PySem.W.Frag) : Sp := fun vs H Q _ => ∃ a d kvs, ∃ st : Stg, vs = [.ref a, .ref d] ∧ StgAt K H a st ∧ H d = some (.dK kvs) ∧ (∀ p ∈ st.parts, (valV kvs (Sum.inr p)).isSome = true) ∧ ∀ H', Same H H' → Q .non H'
theorem sc_first_missing : FnScope ["stage", "there", "name"] ["stage", "there"] (defScope s_first_missing) := ⟨rfl, rfl, rfl, by decide +kernel, rfl, by decide +kernel, by decide +kernel⟩
theorem ok_first_missing (T : Fx K mg w) : Cal P w K mg base 3 "first_missing" (spFirst K) [] := by
  have c_made_of : Cal P w K mg base 2 "made_of" (spMade K) [] := ok_made_of T
  refine cal_of T.d_first_missing sc_first_missing (fun _ _ _ _ _ _ us hl => match us, hl with | [_, _], _ => rfl) (fun vs H Q E h => ?_) (fun cdv A outer s H vs Q E hr h => ?_)
  · obtain ⟨a, d, kvs, st, rfl, _⟩ := h
    rfl
  · have hu := hu_of hr
    refine ⟨_, (pss_cons (ps_for PassesOwn.never rfl (pi_listK (K := K) rfl (pe_c c_made_of hr (by omega) rfl (pa_cons (pv 0) pa_nil))) (pg_name (i := 2) sc_first_missing.nd rfl (Or.inl rfl)) (pss_one (ps_if (pt_cmp (pc_dnotin hu (pv 2) (pv 1))) (pss_one (ps_ret (pv 2))) pss_nil)))
      (pss_one (ps_ret pe_non))), ?_⟩
    obtain ⟨a, d, kvs, st, rfl, hst, hd, hp, q⟩ := h
    refine ⟨_, rfl, a, st, rfl, hst, fun H1 l s1 hl1 el => ?_⟩
    refine ⟨l, rfl, ⟨_, SqL.of el⟩, ?_⟩
    refine for_any (n := (st.parts.map V.str).length) (fun i v => (st.parts.map V.str)[i]? = some v) (fun i σ G => G = H1 ∧ ∃ o, σ = [some (.ref a), some (.ref d), o]) ⟨rfl, _, rfl⟩ (fun i σ G hi j => ?_) (fun i v σ G N li ev j k => ?_) fun σ G j => ?_
    · rw [j.1]
      exact it_lst (SqL.of el) hi
    · obtain ⟨rfl, o, rfl⟩ := j
      obtain ⟨nm, hnm, rfl⟩ : ∃ nm, nm ∈ st.parts ∧ v = V.str nm := by
        obtain ⟨n, h1, h2⟩ := List.mem_map.mp (List.mem_of_getElem? ev)
        exact ⟨n, h1, h2.symm⟩
      have hs := hp nm hnm
      have hd1 := s1 _ _ hd
      refine ⟨_, rfl, _, rfl, d, _, rfl, DGet.k (k := Sum.inr nm) hd1, _, rfl, ?_⟩
      exact if_notB hs (k _ _ ⟨rfl, _, rfl⟩)
    · obtain ⟨rfl, _⟩ := j
      exact q _ s1
/-! in_order -/
structure Ord (e : Nt) (fs : List Str) : Prop where
  sub : ∀ n ∈ fs, n ∈ nms e
  all : ∀ n ∈ nms e, n ∈ fs
  top : ∀ (i : Nat) n st, fs[i]? = some n → stg? e n = some st → ∀ p ∈ st.parts, p ∈ fs.take i
  len : fs.length ≤ e.length
def spOrder (K : PySem.W.Frag) : Sp := fun vs H Q _ => ∃ sd lv, ∃ e : Nt, vs = [.ref sd] ∧ StagesAt K H sd e ∧ OkParts e lv ∧ AllOk (nms e) ∧ e.length ≤ 1000 ∧ ∀ H' l fs, Same H H' → H l = none → H' l = some (.lst (fs.map V.str)) → Ord e fs → Q (.ref l) H'
theorem sc_in_order : FnScope ["stages", "found", "left", "ready", "name", "one"] ["stages"] (defScope s_in_order) := ⟨rfl, rfl, rfl, by decide +kernel, rfl, by decide +kernel, by decide +kernel⟩
theorem ok_in_order (T : Fx K mg w) : Cal P w K mg base 3 "in_order" (spOrder K) [] := by
  have c_made_of : Cal P w K mg base 2 "made_of" (spMade K) [] := ok_made_of T
  refine cal_of T.d_in_order sc_in_order (fun _ _ _ _ _ _ us hl => match us, hl with | [_], _ => rfl) (fun vs H Q E h => ?_) (fun cdv A outer s H vs Q E hr h => ?_)
  · obtain ⟨sd, lv, e, rfl, _⟩ := h
    rfl
  · have hu := hu_of hr
    refine ⟨_, (pss_cons (ps_set (i := 1) sc_in_order.nd rfl (Or.inr rfl) (pe_lst pa_nil))
      (pss_cons (ps_set (i := 2) sc_in_order.nd rfl (Or.inl rfl) (pe_callTy (call_list_dK rfl) (by rfl) T.f_list (by decide +kernel) (pa_cons (pv 0) pa_nil)))
      (pss_cons (ps_while PassesOwn.never (pt_cmpR (op_neD hr.units) (pv 2) (pe_lst pa_nil) (nomark _)) (pss_cons (ps_set (i := 3) sc_in_order.nd rfl (Or.inr rfl) (pe_lc (own := [("name", 4)]) rfl sc_in_order.nd (pi_listK (K := K) rfl (pv 2)) (blkOk_by (N := ["stages", "found", "left", "ready", "name", "one"]) (sc := defScope s_in_order) (by decide +kernel)) (fun _ _ _ _ _ => (pg_name (i := 4) sc_in_order.nd rfl (by first | exact Or.inl rfl | exact Or.inr rfl))) (fun _ _ _ _ _ => (pts_one (pt_val (pe_callB (id := "all") (cr_allK (K := K) rfl rfl) (by rfl) T.f_all (by decide +kernel) (pa_cons (pe_lc (own := [("one", 5)]) rfl sc_in_order.nd (pi_listK (K := K) rfl (pe_c c_made_of hr (by omega) rfl (pa_cons (pe_dget hu (pv 0) (pv 4) (fun _ _ => rfl)) pa_nil))) (blkOk_by (by kernel_rfl)) (fun _ _ _ _ _ => (pg_name (i := 5) sc_in_order.nd rfl (by first | exact Or.inl rfl | exact Or.inr rfl))) (fun _ _ _ _ _ => pts_nil) (fun _ _ _ _ _ => (pe_cmpR (op_in_seqK (K := K) rfl) (pv 5) (pv 1) (by rfl)))) pa_nil))))) (fun _ _ _ _ _ => (pv 4))))
      (pss_cons (ps_if (pt_cmpR (op_eqD hr.units) (pv 3) (pe_lst pa_nil) (nomark _)) (pss_one (ps_ret pe_non)) pss_nil)
      (pss_cons (ps_expr (pe_bm PySem.F.plainAttrs_list PySem.F.slot_list_extend PySem.F.type_list_extend mt_extend (pv 1) (pa_cons (pv 3) pa_nil)))
      (pss_one (ps_setLc (i := 2) (own := [("name", 4)]) rfl sc_in_order.nd rfl rfl (sw_true rfl rfl rfl (by decide +kernel)) (pi_listK (K := K) rfl (pv 2)) (blkOk_by (N := ["stages", "found", "left", "ready", "name", "one"]) (sc := defScope s_in_order) (by decide +kernel)) (fun _ _ _ _ _ => (pg_name (i := 4) sc_in_order.nd rfl (by first | exact Or.inl rfl | exact Or.inr rfl))) (fun _ _ _ _ _ => (pts_one (pt_cmpR (op_notIn_seqK (K := K) rfl) (pv 4) (pv 3) (by rfl)))) (fun _ _ _ _ _ => (pv 4))))))))
      (pss_one (ps_ret (pv 1)))))), ?_⟩
    obtain ⟨sd, lv, e, rfl, hsd, okp, okn, le, q⟩ := h
    obtain ⟨kvs, ed, pr⟩ := id hsd
    refine ⟨(by rw [sizeLine_eq]; exact Nat.le_of_ble_eq_true rfl), fun D hD => ?_⟩
    have s1 : Same H (upd H D (.lst [])) := Same.new hD
    refine ⟨_, rfl, sd, kvs, rfl, s1 _ _ ed, fun L hL => ?_⟩
    rw [ent_keys pr]
    have s2 : Same H (upd (upd H D (.lst [])) L (.lst ((nms e).map V.str))) := s1.trans (Same.new hL)
    have hDL : D ≠ L := ne_of_none upd_same hL
    refine ⟨fun m σ G => ∃ fs ls L' o3 o4 o5, m = ls.length ∧ OrdI e fs ls ∧ σ = [some (.ref sd), some (.ref D), some (.ref L'), o3, o4, o5] ∧ Same H G ∧ G D = some (.lst (fs.map V.str)) ∧ G L' = some (.lst (ls.map V.str)) ∧ L' ≠ D,
      ⟨_, [], nms e, L, none, none, none, rfl, ord_start e, rfl, s2, (upd_ne hDL).trans upd_same, upd_same, hDL.symm⟩, ?_⟩
    rintro m σ G ⟨fs, ls, L', o3, o4, o5, rfl, oi, rfl, sG, gD, gL, hne⟩
    have lsub : ∀ n ∈ ls, n ∈ nms e := by
      intro n hn
      rw [oi.l] at hn
      exact (List.mem_filter.mp hn).1
    have lok : AllOk ls := fun n hn => okn n (lsub n hn)
    have lle : ls.length ≤ 1000 := by
      have := oi.len
      omega
    refine ⟨_, rfl, (by rw [sizeLine_eq]; exact Nat.le_of_ble_eq_true rfl), fun E1 hE1 => ?_⟩
    have sE : Same G (upd G E1 (.lst [])) := Same.new hE1
    refine ⟨.list (ls.map PyData.str), .list [], .lst (SqL.of (sE _ _ gL)) (dp_strs ls), .lst (SqL.of upd_same) .nil, strs_shaped ls lok, strs_shaped [] (fun n h => by cases h), _, rfl, ?_⟩
    rw [strs_eqv_nil]
    by_cases hls : ls = []
    · refine if_nottrue hls ?_
      subst hls
      exact ⟨_, rfl, q _ D fs (sG.trans sE) hD (sE _ _ gD) ⟨oi.sub, ord_done oi, oi.top, by have := oi.len; simp at this; exact this⟩⟩
    refine if_notfalse hls ?_
    obtain ⟨z1, z2, z3⟩ := ord_step okp oi hls
    refine ⟨fun σ' G' => ∃ L2 o3 o4 o5, σ' = [some (.ref sd), some (.ref D), some (.ref L2), o3, o4, o5] ∧ Same H G' ∧ G' D = some (.lst ((fs ++ ls.filter (pz e fs)).map V.str)) ∧ G' L2 = some (.lst ((ls.filter fun n => !decide (n ∈ ls.filter (pz e fs))).map V.str)) ∧ L2 ≠ D,
      fun σ' G' ⟨L2, o3, o4, o5, h1, h2, h3, h4, h5⟩ => ⟨_, z3, _, _, L2, o3, o4, o5, rfl, z2, h1, h2, h3, h4, h5⟩, ?_⟩
    refine ⟨_, rfl, L', rfl, ⟨_, SqL.of (sE _ _ gL)⟩, fun R hR => ?_⟩
    refine lc_filt (ns := ls) (pz e fs) (fun G' => Same (upd G E1 (.lst [])) G') (Same.new hR) (fun G' j => SqL.of (j _ _ (sE _ _ gL))) (fun G' acc acc' j _ => j.to' hR) (by omega) (fun z G1 acc Fin Fno hz j eR yes no => ?_) fun G1 j eR => ?_
    · obtain ⟨st, hst⟩ := stg_mem.mp (lsub z hz)
      obtain ⟨ast, ev, hsa⟩ := ent_get pr hst
      have sG1 : Same H G1 := (sG.trans sE).trans j
      have hget : DGet G1 sd (.str z) (some (.ref ast)) := by
        rw [← ev]
        exact DGet.k (k := Sum.inr z) (sG1 _ _ ed)
      refine ⟨rfl, _, rfl, _, rfl, sd, _, rfl, hget, ast, st, rfl, hsa.mono (Kp.of sG1), fun G2 l s2 hl2 el => ?_⟩
      have np1 : st.parts.length ≤ 1 := by cases st <;> simp [Stg.parts]
      refine ⟨l, rfl, ⟨_, SqL.of el⟩, fun D2 hD2 => ?_⟩
      refine lc_lstG (xs := st.parts.map V.str) (fun G' => Same G2 G') (fun i y _ => ∃ p, st.parts[i]? = some p ∧ y = .bl (decide (p ∈ fs))) (Same.new hD2) (fun G' j2 => SqL.of (j2 _ _ el)) (fun G' acc acc' j2 e2 => j2.to' hD2) (fun _ _ _ _ _ h => h) (by simp; omega) (fun i x G' acc2 Fin2 hx j2 e2 k => ?_) fun G3 acc2 j2 e2 el2 ho => ?_
      · rw [List.getElem?_map] at hx
        cases hp : st.parts[i]? with
        | none => rw [hp] at hx; cases hx
        | some p =>
          rw [hp] at hx
          cases hx
          have gD2 := j2 _ _ (s2 _ _ (j _ _ (sE _ _ gD)))
          refine ⟨rfl, _, rfl, _, rfl, D, _, rfl, Or.inl (SqL.of gD2), rfl, strs_flat fs, ?_⟩
          refine k _ _ j2 e2 (TupS.refl _) ⟨p, hp, ?_⟩
          rw [inV_str]
          rfl
      · have sG3 : Same (upd G E1 (.lst [])) G3 := j.trans (s2.trans j2)
        have eR3 := j2 _ _ (s2 _ _ eR)
        have eb : acc2 = (st.parts.map fun p => decide (p ∈ fs)).map V.bl := by
          apply List.ext_getElem?
          intro i
          by_cases hi : i < acc2.length
          · have e1 : acc2[i]? = some acc2[i] := by simp [hi]
            obtain ⟨p, e3, e4⟩ := ho i _ e1
            rw [e1, e4, List.getElem?_map, List.getElem?_map, e3]
            rfl
          · rw [List.getElem?_eq_none (by omega), List.getElem?_eq_none (by simp at el2; simp; omega)]
        subst eb
        have ea : ((st.parts.map fun p => decide (p ∈ fs)).all id) = pz e fs z := by
          unfold pz
          rw [hst, List.all_map]
          rfl
        refine ⟨D2, _, rfl, SqL.of e2, _, rfl, ?_⟩
        rw [ea]
        cases cz : pz e fs z with
        | true => exact ⟨_, rfl, yes cz _ sG3 eR3⟩
        | false => exact no cz _ sG3 eR3
    generalize hrd : ls.filter (pz e fs) = rd at *
    refine ⟨_, rfl, (by rw [sizeLine_eq]; exact Nat.le_of_ble_eq_true rfl), fun E2 hE2 => ?_⟩
    have s3 : Same (upd G E1 (.lst [])) (upd G1 E2 (.lst [])) := j.trans (Same.new hE2)
    have rok : AllOk rd := fun n hn => lok n (by rw [← hrd] at hn; exact (List.mem_filter.mp hn).1)
    have rle : rd.length ≤ 1000 := by
      have := List.length_filter_le (pz e fs) ls
      rw [hrd] at this
      omega
    have gR := (Same.new (o := .lst []) hE2) _ _ eR
    refine ⟨.list (rd.map PyData.str), .list [], .lst (SqL.of gR) (dp_strs rd), .lst (SqL.of upd_same) .nil, strs_shaped rd rok, strs_shaped [] (fun n h => by cases h), _, rfl, ?_⟩
    rw [strs_eqv_nil]
    refine if_false z1 ?_
    have gD3 := s3 _ _ (sE _ _ gD)
    have hRD : R ≠ D := fun z => by rw [z, sE _ _ gD] at hR; cases hR
    have hRL : R ≠ L' := fun z => by rw [z, sE _ _ gL] at hR; cases hR
    have nD : (upd G1 E2 (.lst [])) D ≠ none := by rw [gD3]; intro z; cases z
    refine ⟨_, rfl, Or.inl ⟨rfl, _, SqL.of gD3⟩, _, rfl, D, R, _, _, rfl, rfl, gD3, gR, (by rw [sizeLine_eq, List.length_map, List.length_map]; have := oi.len; omega), ?_⟩
    have gL4 : (upd (upd G1 E2 (.lst [])) D (.lst (fs.map V.str ++ rd.map V.str))) L' = some (.lst (ls.map V.str)) := (upd_ne hne).trans (s3 _ _ (sE _ _ gL))
    have gR4 : (upd (upd G1 E2 (.lst [])) D (.lst (fs.map V.str ++ rd.map V.str))) R = some (.lst (rd.map V.str)) := (upd_ne hRD).trans gR
    have s4 : Same H (upd (upd G1 E2 (.lst [])) D (.lst (fs.map V.str ++ rd.map V.str))) := ((sG.trans sE).trans s3).to hD
    refine ⟨_, rfl, L', rfl, ⟨_, SqL.of gL4⟩, fun R2 hR2 => ?_⟩
    refine lc_filt (ns := ls) (fun n => !decide (n ∈ rd)) (fun G' => Same (upd (upd G1 E2 (.lst [])) D (.lst (fs.map V.str ++ rd.map V.str))) G') (Same.new hR2) (fun G' j => SqL.of (j _ _ gL4)) (fun G' acc acc' j _ => j.to' hR2) (by omega) (fun z G5 acc Fin Fno hz j5 e5 yes no => ?_) fun G5 j5 e5 => ?_
    · refine ⟨rfl, _, rfl, _, rfl, R, _, rfl, Or.inl (SqL.of (j5 _ _ gR4)), rfl, strs_flat rd, _, rfl, ?_⟩
      have ei : (if true = true then !inV (V.str z) (rd.map V.str) else inV (V.str z) (rd.map V.str)) = !decide (z ∈ rd) := by rw [inV_str]; rfl
      rw [ei]
      cases cz : !decide (z ∈ rd) with
      | true => exact ⟨_, rfl, yes cz _ j5 e5⟩
      | false => exact no cz _ j5 e5
    · refine ⟨R2, _, _, _, rfl, s4.trans j5, ?_, e5, fun z => ?_⟩
      · rw [j5 _ _ upd_same, List.map_append]
      · rw [z, upd_same] at hR2
        cases hR2
end
end K22
end
section
/-! ### the shapes of a net -/
namespace K22
open PySem PySem.Spec PyProof.Rows L2 LamX
section
variable {P : Program} {w : World} {K : PySem.W.Frag} {mg : Str → Option Value} {base : Heap}
structure OkNt (np dp : Nat) (lv : Str → Nat) (e : Nt) : Prop where
  parts : OkParts e lv
  names : AllOk (nms e)
  len : e.length ≤ 24
  stg : ∀ nm st, stg? e nm = some st → OkStg np dp st
def spShapes (K : PySem.W.Frag) (np dp : Nat) : Sp := fun vs H Q _ => ∃ sd lv, ∃ e : Nt, vs = [.ref sd] ∧ StagesAt K H sd e ∧ OkNt np dp lv e ∧ ∀ H' hd, Same H H' → H hd = none → ShapesAt H' hd (nms e) np dp → Q (.ref hd) H'
theorem sc_shapes_of : FnScope ["stages", "shapes", "name", "stage", "one"] ["stages"] (defScope s_shapes_of) := ⟨rfl, rfl, rfl, by decide +kernel, rfl, by decide +kernel, by decide +kernel⟩
theorem ok_shapes_of (T : Fx K mg w) {np dp : Nat} : Cal P w K mg base 4 "shapes_of" (spShapes K np dp) [] := by
  have c_made_of : Cal P w K mg base 2 "made_of" (spMade K) [] := ok_made_of T
  have c_in_order : Cal P w K mg base 3 "in_order" (spOrder K) [] := ok_in_order T
  have c_shape_by : Cal P w K mg base 3 "shape_by" (spShape K np dp) [] := ok_shape_by T
  refine cal_of T.d_shapes_of sc_shapes_of (fun _ _ _ _ _ _ us hl => match us, hl with | [_], _ => rfl) (fun vs H Q E h => ?_) (fun cdv A outer s H vs Q E hr h => ?_)
  · obtain ⟨sd, lv, e, rfl, _⟩ := h
    rfl
  · have hu := hu_of hr
    refine ⟨_, (pss_cons (ps_set (i := 1) sc_shapes_of.nd rfl (Or.inr rfl) pe_dnewK)
      (pss_cons (ps_for PassesOwn.never rfl (pi_listK (K := K) rfl (pe_c c_in_order hr (by omega) rfl (pa_cons (pv 0) pa_nil))) (pg_name (i := 2) sc_shapes_of.nd rfl (Or.inl rfl)) (pss_cons (ps_set (i := 3) sc_shapes_of.nd rfl (Or.inl rfl) (pe_dget hu (pv 0) (pv 2) (fun _ _ => rfl)))
      (pss_one (ps_dput hu (pv 1) (pv 2) (pe_c c_shape_by hr (by omega) rfl (pa_cons (pv 3) (pa_cons (pe_lc (own := [("one", 4)]) rfl sc_shapes_of.nd (pi_listK (K := K) rfl (pe_c c_made_of hr (by omega) rfl (pa_cons (pv 3) pa_nil))) (blkOk_by (N := ["stages", "shapes", "name", "stage", "one"]) (sc := defScope s_shapes_of) (by decide +kernel)) (fun _ _ _ _ _ => (pg_name (i := 4) sc_shapes_of.nd rfl (by first | exact Or.inl rfl | exact Or.inr rfl))) (fun _ _ _ _ _ => pts_nil) (fun _ _ _ _ _ => (pe_dget hu (pv 1) (pv 4) (fun _ _ => rfl)))) pa_nil))) rfl))))
      (pss_one (ps_ret (pv 1))))), ?_⟩
    obtain ⟨sd, lv, e, rfl, hsd, O, q⟩ := h
    obtain ⟨kvs, ed, pr⟩ := id hsd
    intro hd hhd
    have s1 : Same H (upd H hd (.dK [])) := Same.new hhd
    have le := O.len
    refine ⟨_, rfl, sd, lv, e, rfl, hsd.mono (Kp.of s1), O.parts, O.names, by omega, fun H1 l fs s2 hl1 el od => ?_⟩
    refine ⟨l, rfl, ⟨_, SqL.of el⟩, ?_⟩
    have s3 : Same H H1 := s1.trans s2
    have hhd1 : H1 hd = some (.dK []) := s2 _ _ upd_same
    refine for_any (n := (fs.map V.str).length) (fun i v => (fs.map V.str)[i]? = some v) (fun i σ G => ∃ kv2 o2 o3, σ = [some (.ref sd), some (.ref hd), o2, o3, none] ∧ Same H G ∧ G l = some (.lst (fs.map V.str)) ∧ G hd = some (.dK kv2) ∧ kv2.length ≤ i ∧ ∀ n ∈ fs.take i, ∃ t, valV kv2 (Sum.inr n) = some (.ref t) ∧ ShpAt G t np dp)
      ⟨[], none, none, rfl, s3, el, hhd1, Nat.le_refl _, fun n hn => by simp at hn⟩ (fun i σ G hi j => ?_) (fun i v σ G N li ev j k => ?_) fun σ G j => ?_
    · obtain ⟨kv2, o2, o3, _, _, gl, _⟩ := j
      exact it_lst (SqL.of gl) hi
    · obtain ⟨kv2, o2, o3, rfl, sG, gl, gd, lk, hk⟩ := j
      have lf := od.len
      rw [List.length_map] at li
      obtain ⟨nm, hnm⟩ : ∃ nm, fs[i]? = some nm := ⟨fs[i], by simp [li]⟩
      have ev2 : v = .str nm := by
        rw [List.getElem?_map, hnm] at ev
        exact (Option.some.inj ev).symm
      subst ev2
      obtain ⟨st, hst⟩ := stg_mem.mp (od.sub nm (List.mem_of_getElem? hnm))
      obtain ⟨ast, eval, hsa⟩ := ent_get pr hst
      have hget : DGet G sd (.str nm) (some (.ref ast)) := by
        rw [← eval]
        exact DGet.k (k := Sum.inr nm) (sG _ _ ed)
      refine ⟨_, rfl, _, rfl, sd, _, rfl, hget, ?_⟩
      refine ⟨_, rfl, _, rfl, ast, st, rfl, hsa.mono (Kp.of sG), fun G1 l2 s4 hl2 el2 => ?_⟩
      refine ⟨l2, rfl, ⟨_, SqL.of el2⟩, fun D hD => ?_⟩
      have np1 : st.parts.length ≤ 1 := by cases st <;> simp [Stg.parts]
      refine lc_lstG (xs := st.parts.map V.str) (fun G' => Same G1 G') (fun i y G' => ∃ t, y = .ref t ∧ ShpAt G' t np dp) (Same.new hD) (fun G' j2 => SqL.of (j2 _ _ el2)) (fun G' acc acc' j2 e2 => j2.to' hD) (fun i y G2 G3 ts h => ?_) (by simp; omega) (fun i2 x G' acc2 Fin2 hx j2 e2 k2 => ?_) fun G2 acc2 j2 e2 el3 ho => ?_
      · obtain ⟨t, e1, e2⟩ := h
        exact ⟨t, e1, ts _ _ e2⟩
      · rw [List.getElem?_map] at hx
        cases hp : st.parts[i2]? with
        | none => rw [hp] at hx; cases hx
        | some p =>
          rw [hp] at hx
          cases hx
          obtain ⟨t, et, hsh⟩ := hk p (od.top i nm st hnm hst p (List.mem_of_getElem? hp))
          have s5 := s4.trans j2
          have hget2 : DGet G' hd (.str p) (some (.ref t)) := by
            rw [← et]
            exact DGet.k (k := Sum.inr p) (s5 _ _ gd)
          refine ⟨rfl, _, rfl, _, rfl, hd, _, rfl, hget2, ?_⟩
          exact k2 _ _ j2 e2 (TupS.refl _) ⟨t, rfl, s5 _ _ hsh⟩
      · have s5 := s4.trans j2
        refine ⟨ast, D, st, rfl, hsa.mono (Kp.of (sG.trans s5)), O.stg nm st hst, fun hne => ?_, fun G3 t s6 hsh => ?_⟩
        · cases acc2 with
          | nil =>
            rw [List.length_map] at el3
            exact absurd (List.eq_nil_of_length_eq_zero el3.symm) hne
          | cons y acc3 =>
            obtain ⟨t, rfl, ht⟩ := ho 0 y rfl
            exact ⟨t, acc3, e2, ht⟩
        · have s7 := s5.trans s6
          have gd3 := s7 _ _ gd
          refine ⟨_, rfl, _, rfl, hd, _, rfl, DPut.k (k := Sum.inr nm) gd3 (by rw [sizeLine_eq]; omega), ?_⟩
          refine k _ _ ⟨putK kv2 (Sum.inr nm) (.ref t), _, _, rfl, ?_, ?_, upd_same, ?_, fun n hn => ?_⟩
          · exact (sG.trans s7).to hhd
          · rw [upd_ne (ne_of gl (s7 _ _ gd |> fun z => gd) (by intro z; cases z))]
            exact s7 _ _ gl
          · unfold putK
            split
            · rw [List.length_map]; omega
            · rw [List.length_append]; simp; omega
          · rw [valV_put]
            have ts : TupS G3 (upd G3 hd (.dK (putK kv2 (Sum.inr nm) (.ref t)))) := fun b zs e => by
              rw [upd_ne (ne_of e gd3 (by intro z; cases z))]
              exact e
            by_cases c : n = nm
            · subst c
              exact ⟨t, by simp, ts _ _ hsh⟩
            · have hn2 : n ∈ fs.take i := by
                rw [List.take_succ, hnm] at hn
                rcases List.mem_append.mp hn with z | z
                · exact z
                · simp at z
                  exact absurd z c
              obtain ⟨t2, e3, e4⟩ := hk n hn2
              have ne2 : ¬ (Sum.inr n : Key) = Sum.inr nm := fun z => c (Sum.inr.inj z)
              exact ⟨t2, by rw [if_neg ne2]; exact e3, ts _ _ (s7 _ _ e4)⟩
    · obtain ⟨kv2, o2, o3, rfl, sG, gl, gd, lk, hk⟩ := j
      refine ⟨_, rfl, q G hd sG hhd ⟨kv2, gd, fun n hn => ?_⟩⟩
      refine hk n ?_
      rw [List.length_map, List.take_length]
      exact od.all n hn
end
end K22
end
section
/-! ### the plain formula -/
namespace K22
open PySem PySem.Spec PyProof.Rows L2 LamX NdefX
/-! what it tells -/
def partG (st : Stg) (g : Str → Int → Int → Nat → Int) : Int → Int → Nat → Int := match st.parts with
  | q :: _ => g q
  | [] => fun _ _ _ => 0
def evN (e : Nt) : Nat → Str → Int → Int → Nat → Int
  | 0, _, _, _, _ => 0
  | f + 1, nm, x, y, p => match stg? e nm with
    | none => 0
    | some st => tellV st (partG st (evN e f)) x y p
def ev (e : Nt) : Str → Int → Int → Nat → Int := evN e 3
theorem evN_some {e : Nt} {nm : Str} {st : Stg} (h : stg? e nm = some st) (f : Nat) : evN e (f + 1) nm = tellV st (partG st (evN e f)) := by
  funext x y p
  show (match stg? e nm with | none => 0 | some st => tellV st (partG st (evN e f)) x y p) = _
  rw [h]
theorem evN_none {e : Nt} {nm : Str} (h : stg? e nm = none) (f : Nat) : evN e (f + 1) nm = fun _ _ _ => 0 := by
  funext x y p
  show (match stg? e nm with | none => 0 | some st => tellV st (partG st (evN e f)) x y p) = _
  rw [h]
theorem partG_congr {st : Stg} {g g' : Str → Int → Int → Nat → Int} (h : ∀ q ∈ st.parts, g q = g' q) : partG st g = partG st g' := by
  unfold partG
  cases e : st.parts with
  | nil => rfl
  | cons q r => exact h q (by rw [e]; exact List.mem_cons_self)
theorem evN_eq {e : Nt} {lv : Str → Nat} (ok : OkParts e lv) : ∀ (f f' : Nat) (nm : Str), lv nm < f → lv nm < f' → evN e f nm = evN e f' nm
  | 0, _, _, h, _ => absurd h (Nat.not_lt_zero _)
  | _ + 1, 0, _, _, h => absurd h (Nat.not_lt_zero _)
  | f + 1, f' + 1, nm, h, h' => by
    cases c : stg? e nm with
    | none => rw [evN_none c, evN_none c]
    | some st =>
      rw [evN_some c, evN_some c, partG_congr fun q hq => evN_eq ok f f' q ?_ ?_]
      · have := (ok nm st c q hq).2
        omega
      · have := (ok nm st c q hq).2
        omega
theorem ev_eq {e : Nt} {lv : Str → Nat} (ok : OkParts e lv) (h2 : ∀ nm, lv nm ≤ 2) {nm : Str} {st : Stg} (h : stg? e nm = some st) : ev e nm = tellV st (partG st (ev e)) := by
  unfold ev
  rw [evN_some h 2]
  rw [partG_congr fun q hq => evN_eq ok 2 3 q (by have := (ok nm st h q hq).2; have := h2 nm; omega) (by have := h2 q; omega)]
theorem rnk_mem {l : List Int} {r : Nat} (h : r < l.length) : rnk l r ∈ l := by
  have lt : r < (l.mergeSort (fun a b => decide (a ≤ b))).length := by rw [List.length_mergeSort]; exact h
  unfold rnk
  rw [List.getD_eq_getElem?_getD, List.getElem?_eq_getElem lt]
  exact (List.mergeSort_perm l _).mem_iff.mp (List.getElem_mem lt)
theorem tellV_rng {np dp : Nat} {st : Stg} {g : Int → Int → Nat → Int} (O : OkStg np dp st) (hg : st.parts ≠ [] → ∀ x y (p : Nat), p < np → 0 ≤ g x y p ∧ g x y p ≤ dp) {x y : Int} {p : Nat} (hp : p < np) : 0 ≤ tellV st g x y p ∧ tellV st g x y p ≤ dp := by
  cases st with
  | src pic b wd hg2 =>
    obtain ⟨Op, ed, Ob⟩ := O
    have := srcV_rng Op.pl (b := b) (x := x) (y := y) (by rw [ed]; exact Ob) hp
    rw [ed] at this
    exact this
  | crv nm ts =>
    obtain ⟨On, Ot⟩ := O
    have z := hg (by simp [Stg.parts]) x y p hp
    have hl := Ot.len
    have lt : (g x y p).toNat < ts.length := by omega
    show 0 ≤ ts.getD (g x y p).toNat 0 ∧ ts.getD (g x y p).toNat 0 ≤ dp
    rw [List.getD_eq_getElem?_getD, List.getElem?_eq_getElem lt]
    exact Ot.rng _ (List.getElem_mem lt)
  | rnk nm fm r =>
    obtain ⟨On, Of, Or⟩ := O
    have z := hg (by simp [Stg.parts])
    have m := rnk_mem (l := fm.map fun d => g (x + d.1) (y + d.2) p) (r := r) (by simpa using Or)
    obtain ⟨d, _, e⟩ := List.mem_map.mp m
    show 0 ≤ rnk (fm.map fun d => g (x + d.1) (y + d.2) p) r ∧ rnk (fm.map fun d => g (x + d.1) (y + d.2) p) r ≤ dp
    rw [← e]
    exact z _ _ p hp
theorem evN_rng {np dp : Nat} {e : Nt} {lv : Str → Nat} (O : OkNt np dp lv e) : ∀ (f : Nat) (nm : Str) (st : Stg), lv nm < f → stg? e nm = some st → ∀ x y (p : Nat), p < np → 0 ≤ evN e f nm x y p ∧ evN e f nm x y p ≤ dp
  | 0, _, _, h, _, _, _, _, _ => absurd h (Nat.not_lt_zero _)
  | f + 1, nm, st, h, hs, x, y, p, hp => by
    rw [evN_some hs]
    refine tellV_rng (O.stg nm st hs) (fun ne x y p hp => ?_) hp
    unfold partG
    cases e1 : st.parts with
    | nil => exact absurd e1 ne
    | cons q r =>
      have k := O.parts nm st hs q (by rw [e1]; exact List.mem_cons_self)
      obtain ⟨st2, h2⟩ := stg_mem.mp k.1
      exact evN_rng O f q st2 (by omega) h2 x y p hp
theorem ev_rng {np dp : Nat} {e : Nt} {lv : Str → Nat} (O : OkNt np dp lv e) (h2 : ∀ nm, lv nm ≤ 2) {nm : Str} (hm : nm ∈ nms e) (x y : Int) {p : Nat} (hp : p < np) : 0 ≤ ev e nm x y p ∧ ev e nm x y p ≤ dp := by
  obtain ⟨st, hs⟩ := stg_mem.mp hm
  exact evN_rng O 3 nm st (by have := h2 nm; omega) hs x y p hp
/-! the memo, the tables of code -/
structure MemoAt (m : Addr) (g : Str → Int → Int → Nat → Int) (n : Nat) (H : Hp) : Prop where
  ex : ∃ kvs : List (List Key × V), H m = some (.dT kvs) ∧ kvs.length ≤ n ∧ ∀ nm x y (p : Nat) v, valV kvs [Sum.inr nm, Sum.inl x, Sum.inl y, Sum.inl (p : Int)] = some v → v = .int (g nm x y p)
theorem MemoAt.mono {m : Addr} {g : Str → Int → Int → Nat → Int} {n n' : Nat} {H H' : Hp} (h : MemoAt m g n H) (e : ∀ kvs, H m = some (.dT kvs) → H' m = some (.dT kvs)) (le : n ≤ n') : MemoAt m g n' H' := by
  obtain ⟨kvs, h1, h2, h3⟩ := h.ex
  exact ⟨kvs, e kvs h1, by omega, h3⟩
theorem tabsN_upd {T : List NTab} {H : Hp} {a : Addr} {u o : HO} (h : TabsN T H) (e : H a = some u) (n1 : ∀ ps, u ≠ .tbl ps) (n2 : ∀ c q, u ≠ CodeO c q) : TabsN T (upd H a o) := by
  intro p hp
  obtain ⟨ps, h1, h2, h3⟩ := h p hp
  refine ⟨ps, (upd_ne (ne_of h1 e fun z => n1 ps z.symm)).trans h1, h2, fun pos cv hc => ?_⟩
  obtain ⟨c, e1, e2⟩ := h3 pos cv hc
  exact ⟨c, e1, (upd_ne (ne_of e2 e fun z => n2 _ _ z.symm)).trans e2⟩
theorem tabsN_same {T : List NTab} {H H' : Hp} (h : TabsN T H) (s : Same H H') : TabsN T H' := h.ext fun b o e => s b o e
def nmF : Nat → Nat → Str := fun l _ => if l = 467 then "numbers_at.<locals>.look" else "Net.whole.<locals>.tell"
def Tb (K : PySem.W.Frag) : List NTab := [((He.cT K ("numbers_at", none)).2, nmF), ((He.cT K ("Net", some "whole")).2, nmF)]
theorem tb_nm {K : PySem.W.Frag} {Q : Addr} : ∀ p ∈ Tb K, p.1 = Q → p.2 = nmF := by
  intro p hp _
  unfold Tb at hp
  rcases List.mem_cons.mp hp with e | e
  · rw [e]
  · rw [List.mem_singleton.mp e]
theorem tb_first {K : PySem.W.Frag} : ((He.cT K ("numbers_at", none)).2, nmF) ∈ Tb K := List.mem_cons_self
theorem tb_second {K : PySem.W.Frag} : ((He.cT K ("Net", some "whole")).2, nmF) ∈ Tb K := List.mem_cons_of_mem _ List.mem_cons_self
/-! a def whose code object is known -/
section
variable {P : Program} {w : World} {K : PySem.W.Frag} {mg : Str → Option Value} {base : Heap} {x m q : Str} {st : Stmt} {N ps : List Str} {k : Nat} {sp : Sp}
theorem cal_ofC (D : Dx K mg x st []) (S : FnScope N ps (defScope st))
    (hb : ∀ (kV doc pm : Value) (an : Option Addr) (cdv ct : Value) (us : List Value), us.length = ps.length → bindArgs (PySem.W.fnOf x x (defArgs st) (defBody st) (defScope st) .none kV doc pm an cdv ct) ⟨us, []⟩ = pure (ps.zip us))
    (len : ∀ vs H Q E, sp vs H Q E → vs.length = ps.length)
    (hbody : ∀ (A : Around) (outer : List Env) (s : Shared) (H : Hp) (vs : List V) (Q : VK) (E : XK), Room k (A.deeper (envOfC x (defScope st) s.heap.objs.size (He.ga K x) (.ref (He.codeOf K (x, none))))) → sp vs H Q E →
      ∃ t, PSs (cxOf CX0 P w K mg base N x (defScope st) (He.ga K x) (.ref (He.codeOf K (x, none))) A outer s H E).nox (defBody st) t ∧ t { nx := fun _ H' => Q .non H', rt := Q } (start N vs) H) : Cal P w K mg base (k + 1) x sp [] := by
  obtain ⟨⟨fd, F⟩, hm⟩ := D
  have F2 := F
  obtain ⟨oc, od, dV, kV, doc, pm, an, cdv, ct, osl, rfl, lk, hcd, hD, hK⟩ := F.ex
  obtain ⟨c, rfl⟩ := He.codeIn_ref hcd
  have e : He.codeOf K (x, none) = c := He.codeOf_eq (p := (x, none)) lk rfl
  refine ⟨_, ps, [], fn_of lk hcd S len fun A outer s H vs Q E hr h => ?_, hm, F.kp, F2.bindsN hb, .nil⟩
  rw [e] at hbody
  obtain ⟨t, h1, h2⟩ := hbody A outer s H vs Q E hr h
  exact ⟨t, h1.nox, h2⟩
end
end K22
end
section
/-! ### numbers_at -/
namespace K22
open PySem PySem.Spec PyProof.Rows L2 LamX NdefX
def ifBody : Stmt → List Stmt
  | .If _ b _ _ => b
  | _ => []
abbrev s_numbers_at_look : Stmt := (ifBody ((defBody s_numbers_at).getD 1 (.Pass ⟨0, 0, 0, 0⟩))).getD 2 (.Pass ⟨0, 0, 0, 0⟩)
theorem look_free : ∀ y ∈ (C8.fnScope s_numbers_at_look).names, y.2 = .free → (defScope s_numbers_at).names.lookup y.1 = some .cell ∨ (defScope s_numbers_at).names.lookup y.1 = some .free := by decide +kernel
abbrev lookFr : List Str := ["memo", "parts", "shapes", "stages"]
theorem look_sc : NScope ["which", "u", "v", "layer", "memo", "parts", "shapes", "stages"] ["which", "u", "v", "layer"] lookFr (C8.fnScope s_numbers_at_look) := nscope_by (by decide +kernel)
theorem cellO_nlst {c : Addr} {o : Obj} {xs : List V} : CellO c o ≠ .lst xs := fun z => by unfold CellO at z; cases z
theorem cellO_ndT {c : Addr} {o : Obj} {xs} : CellO c o ≠ .dT xs := fun z => by unfold CellO at z; cases z
theorem fnO_nlst {c : Addr} {o : NF} {xs : List V} : FnO c o ≠ .lst xs := fun z => by unfold FnO at z; cases z
theorem fnO_ndT {c : Addr} {o : NF} {xs} : FnO c o ≠ .dT xs := fun z => by unfold FnO at z; cases z
theorem codeO_nlst {c : Addr} {o : Str} {xs : List V} : CodeO c o ≠ .lst xs := fun z => by unfold CodeO at z; cases z
theorem codeO_ndT {c : Addr} {o : Str} {xs} : CodeO c o ≠ .dT xs := fun z => by unfold CodeO at z; cases z
section
variable {P : Program} {w : World} {K : PySem.W.Frag} {mg : Str → Option Value} {base : Heap}
def spNum (K : PySem.W.Frag) (h c lim : Nat) : Sp := fun vs H Q _ => ∃ sd hd m nm x y lv, ∃ p n np dp : Nat, ∃ e : Nt, vs = [.ref sd, .ref hd, .ref m, .str nm, .int x, .int y, .int p] ∧ OkNt np dp lv e ∧ (∀ nm, lv nm ≤ 2) ∧ StagesAt K H sd e ∧ ShapesAt H hd (nms e) np dp ∧ nm ∈ nms e ∧ lv nm ≤ h ∧ p < np ∧
  TabsN (Tb K) H ∧ MemoAt m (ev e) n H ∧ n + c ≤ lim ∧ ∀ H', Lk m H H' → TabsN (Tb K) H' → MemoAt m (ev e) (n + c) H' → Q (.int (ev e nm x y p)) H'
/-! look -/
def spLk (K : PySem.W.Frag) (h c lim : Nat) : List (Option V) → Sp := fun ws vs H Q E => ∃ sd hd m pl q x y, ∃ p : Nat, ws = [some (.ref m), some (.ref pl), some (.ref hd), some (.ref sd)] ∧ vs = [.int 0, .int x, .int y, .int p] ∧ H pl = some (.lst [.str q]) ∧
  spNum K h c lim [.ref sd, .ref hd, .ref m, .str q, .int x, .int y, .int p] H Q E
theorem nok_look (T : Fx K mg w) {kN h c lim : Nat} (c_numbers_at : Cal P w K mg base kN "numbers_at" (spNum K h c lim) []) {f : Addr} {qual : Str} {cl : List (Str × Addr)} {c' : Addr} :
    NOk P w K mg base CX0 (kN + 1) f (NF.of s_numbers_at_look "look" qual cl c') ["which", "u", "v", "layer"] lookFr (spLk K h c lim) := by
  refine nok_of look_sc (fun _ _ _ us hl => match us, hl with | [_, _, _, _], _ => rfl) (fun ws vs H Q E hh => ?_) (fun A outer s H vs ws Q E hr hf hc hw hh => ?_)
  · obtain ⟨sd, hd, m, pl, q, x, y, p, _, rfl, _⟩ := hh
    rfl
  · refine ⟨_, (pss_one (ps_ret (pe_c c_numbers_at hr (by omega) rfl (pa_cons (pv 7) (pa_cons (pv 6) (pa_cons (pv 4) (pa_cons (pe_ix (ix_listK (K := K) rfl) (pv 5) (pv 0) (fun _ _ => rfl)) (pa_cons (pv 1) (pa_cons (pv 2) (pa_cons (pv 3) pa_nil)))))))))), ?_⟩
    obtain ⟨sd, hd, m, pl, q, x, y, p, rfl, rfl, hpl, hn⟩ := hh
    exact ⟨_, rfl, _, rfl, _, rfl, _, rfl, _, rfl, _, _, _, _, rfl, rfl, SqL.of (hpl), atI_nat (j := 0) rfl, _, rfl, _, rfl, _, rfl, hn⟩
/-- what look holds on to -/
structure JL (K : PySem.W.Frag) (e : Nt) (np dp : Nat) (f c' sd hd m pl : Addr) (F : NF) (pt : List Str) (cs : Cs) (n : Nat) (G : Hp) : Prop where
  fn : G f = some (FnO f F)
  co : G c' = some (CodeO c' F.qual)
  ce : ∀ c o, cs c = some o → G c = some (CellO c o)
  tb : TabsN (Tb K) (lessC G cs)
  me : MemoAt m (ev e) n G
  st : StagesAt K G sd e
  sh : ShapesAt G hd (nms e) np dp
  pl : G pl = some (.lst (pt.map V.str))
section
variable {e : Nt} {np dp : Nat} {f c' sd hd m pl : Addr} {F : NF} {pt : List Str} {cs : Cs} {n n' : Nat} {G G' : Hp}
theorem JL.same (j : JL K e np dp f c' sd hd m pl F pt cs n G) (s : Same G G') : JL K e np dp f c' sd hd m pl F pt cs n G' :=
  ⟨s _ _ j.fn, s _ _ j.co, fun c o z => s _ _ (j.ce c o z), (j.tb.ext fun b o z => by
    cases q : cs b with
    | none => rw [lessC_out q] at z ⊢; exact s _ _ z
    | some v => rw [lessC_in q] at z; cases z), j.me.mono (fun kvs z => s _ _ z) (Nat.le_refl _), j.st.mono (Kp.of s), j.sh.mono (K := K) (Kp.of s), s _ _ j.pl⟩
theorem JL.mono (j : JL K e np dp f c' sd hd m pl F pt cs n G) (le : n ≤ n') : JL K e np dp f c' sd hd m pl F pt cs n' G :=
  ⟨j.fn, j.co, j.ce, j.tb, j.me.mono (fun _ z => z) le, j.st, j.sh, j.pl⟩
theorem lessC_upd {H : Hp} {a : Addr} {o : HO} (h : cs a = none) : lessC (upd H a o) cs = upd (lessC H cs) a o := by
  funext b
  by_cases e : b = a
  · subst e
    rw [lessC_out h, upd_same, upd_same]
  · rw [upd_ne e]
    cases q : cs b with
    | none => rw [lessC_out q, lessC_out q, upd_ne e]
    | some v => rw [lessC_in q, lessC_in q]
theorem JL.lst {n0 : Nat} {G0 : Hp} {D : Addr} {xs : List V} (ys : List V) (j0 : JL K e np dp f c' sd hd m pl F pt cs n0 G0) (hD0 : G0 D = none) (j : JL K e np dp f c' sd hd m pl F pt cs n G) (hD : G D = some (.lst xs)) : JL K e np dp f c' sd hd m pl F pt cs n (upd G D (.lst ys)) := by
  have kp : Kp K G (upd G D (.lst ys)) := fun b o z fz => by
    rw [upd_ne (ne_of z hD fun y => by subst y; exact fz)]
    exact z
  have cD : cs D = none := by
    cases q : cs D with
    | none => rfl
    | some o => rw [j.ce D o q] at hD; exact absurd (Option.some.inj hD) cellO_nlst
  refine ⟨(upd_ne (ne_of j.fn hD fnO_nlst)).trans j.fn, (upd_ne (ne_of j.co hD codeO_nlst)).trans j.co, fun c o z => (upd_ne (ne_of (j.ce c o z) hD cellO_nlst)).trans (j.ce c o z), ?_, j.me.mono (fun kvs z => (upd_ne (ne_of z hD (by intro y; cases y))).trans z) (Nat.le_refl _), j.st.mono kp, j.sh.mono kp, (upd_ne (ne_of_none j0.pl hD0)).trans j.pl⟩
  rw [lessC_upd cD]
  refine tabsN_upd j.tb (u := .lst xs) (by rw [lessC_out cD]; exact hD) (fun ps z => by cases z) (fun c q z => codeO_nlst z.symm)
end
theorem kp_less {H : Hp} {cs : Cs} (h : ∀ c o, cs c = some o → H c = some (CellO c o)) : Kp K H (lessC H cs) := fun b o z fz => by
  cases q : cs b with
  | none => rw [lessC_out q]; exact z
  | some v =>
    rw [h b v q] at z
    cases z
    exact fz.elim
theorem look_ok (T : Fx K mg w) {kN h c0 lim : Nat} (c_num : Cal P w K mg base kN "numbers_at" (spNum K h c0 lim) []) {e : Nt} {np dp : Nat} {lv : Str → Nat} (O : OkNt np dp lv e) (h2 : ∀ nm, lv nm ≤ 2)
    {qual q : Str} {cl : List (Str × Addr)} {cs : Cs} {f c' m pl hd sd : Addr} (C : CellsS cl lookFr [some (.ref m), some (.ref pl), some (.ref hd), some (.ref sd)] cs) (nF : cs f = none) (nC : cs c' = none) (hq : q ∈ nms e) (hlv : lv q ≤ h) :
    LookOk P w K mg base (kN + 1) f m (JL K e np dp f c' sd hd m pl (NF.of s_numbers_at_look "look" qual cl c') [q] cs) (ev e q) np c0 lim where
  same := fun j s => j.same s
  lst := fun ys j0 hD0 j hD => j0.lst ys hD0 j hD
  mem := fun j => by
    obtain ⟨kvs, z, _⟩ := j.me.ex
    exact ⟨kvs, z⟩
  mono := fun j le => j.mono le
  cb := by
    refine cb_of (F := NF.of s_numbers_at_look "look" qual cl c') (nok_look T c_num) C nF nC (fun H j => ?_) fun vs H Q E j hs => ?_
    · obtain ⟨n, j⟩ := j
      exact ⟨j.fn, j.co, j.ce⟩
    · obtain ⟨x, y, p, n, rfl, hp, j, hl, k⟩ := hs
      have kp := kp_less (K := K) j.ce
      have cm : cs m = none := by
        obtain ⟨kvs, z, _⟩ := j.me.ex
        cases q : cs m with
        | none => rfl
        | some o => rw [j.ce m o q] at z; exact absurd (Option.some.inj z) cellO_ndT
      have cp : cs pl = none := by
        have z := j.pl
        cases q : cs pl with
        | none => rfl
        | some o => rw [j.ce pl o q] at z; exact absurd (Option.some.inj z) cellO_nlst
      refine ⟨sd, hd, m, pl, q, x, y, p, rfl, rfl, (lessC_out cp).trans j.pl, sd, hd, m, q, x, y, lv, p, n, np, dp, e, rfl, O, h2, j.st.mono kp, j.sh.mono kp, hq, hlv, hp, j.tb, j.me.mono (fun kvs z => (lessC_out cm).trans z) (Nat.le_refl _), hl, fun G' l' t' m' free => ?_⟩
      have back : ∀ b, cs b = none → withC G' cs b = G' b := fun b z => withC_out z
      have lk : Lk m H (withC G' cs) := fun b o ne eb nt => by
        cases q : cs b with
        | none => rw [back b q]; exact l' b o ne ((lessC_out q).trans eb) nt
        | some v =>
          rw [j.ce b v q] at eb
          cases eb
          exact withC_in q
      have ne_m : ∀ b o, H b = some o → (∀ kvs, o ≠ .dT kvs) → b ≠ m := fun b o eb z y => by
        obtain ⟨kvs, em, _⟩ := j.me.ex
        rw [y, em] at eb
        exact z kvs (Option.some.inj eb).symm
      refine k _ lk ⟨?_, ?_, fun c o z => withC_in z, ?_, ?_, ?_, ?_, ?_⟩
      · exact lk f _ (ne_m _ _ j.fn fun kvs => fnO_ndT) j.fn fun ps => fnO_ne ps
      · exact lk c' _ (ne_m _ _ j.co fun kvs => codeO_ndT) j.co fun ps => codeO_ne ps
      · rw [less_with free]
        exact t'
      · exact m'.mono (fun kvs z => (back m cm).trans z) (Nat.le_refl _)
      · refine j.st.mono fun b o z fz => lk b o (ne_m b o z fun kvs y => by subst y; exact fz) z fun ps y => by subst y; exact fz
      · refine j.sh.mono (K := K) fun b o z fz => lk b o (ne_m b o z fun kvs y => by subst y; exact fz) z fun ps y => by subst y; exact fz
      · exact lk pl _ (ne_m _ _ j.pl fun kvs y => by cases y) j.pl fun ps y => by cases y
end
end K22
end
section
/-! ### numbers_at, by heights -/
namespace K22
open PySem PySem.Spec PyProof.Rows L2 LamX NdefX
theorem pe_cR {X : Cx} {k j : Nat} {x : Str} {sp : Sp} {cl : List (Str × Addr)} {fr : List Str} {js : List Nat} {p pos : Pos} {e : Expr} {es : List Expr} {t : TA} (c : Cal X.prog X.w X.K X.mg X.base k x sp []) (hr : Room j X.A) (hk : k ≤ j) (hg : Gl X x)
    (cp : X.Ok → Caps X cl fr js) (hfn : ∀ y, X.fn y = true) (ha : PA X (e :: es) t)
    (hdb : (x == ("__debug__" : Str)) = false := by decide) (he : starEach (e :: es) X.env = (false, eval e X.env) :: starEach es X.env := by rfl) (hpl : (backTo pos (starEach es X.env)).any (·.1) = false := by rfl) :
    PE X (.Call (.Name x p) (e :: es) [] pos) (tCallR cl fr js sp t) := by
  obtain ⟨fd, ps, ds, F, hm, kp, b, d⟩ := c.ex
  cases d
  exact pe_callR F hr hk hg hm kp b cp hfn ha hdb he hpl
theorem look_fr : ∀ y ∈ lookFr, (y, NameKind.free) ∈ (C8.fnScope s_numbers_at_look).names := by decide +kernel
section
variable {P : Program} {w : World} {K : PySem.W.Frag} {mg : Str → Option Value} {base : Heap}
theorem sc_numbers_at : FnScope ["stages", "shapes", "memo", "name", "x", "y", "plane", "key", "stage", "look", "parts", "one"] ["stages", "shapes", "memo", "name", "x", "y", "plane"] (defScope s_numbers_at) := ⟨rfl, rfl, rfl, by decide +kernel, rfl, by decide +kernel, by decide +kernel⟩
theorem num_step (T : Fx K mg w) (TB : TabB base mg (He.cT K ("numbers_at", none)).1 (He.cT K ("numbers_at", none)).2) {kN h c0 lim : Nat} (hlim : lim ≤ 16000000)
    (c_num : ∀ h', h = h' + 1 → Cal P w K mg base kN "numbers_at" (spNum K h' c0 lim) []) : Cal P w K mg base (kN + 6) "numbers_at" (spNum K h (1 + 25 * c0) lim) [] := by
  have c_made_of : Cal P w K mg base 2 "made_of" (spMade K) [] := ok_made_of T
  have c_told_by : Cal P w K mg base (kN + 1 + 4) "told_by" (spTold P w K mg base (kN + 1)) [] := ok_told_by T
  refine cal_ofC T.d_numbers_at sc_numbers_at (fun _ _ _ _ _ _ us hl => match us, hl with | [_, _, _, _, _, _, _], _ => rfl) (fun vs H Q E h => ?_) (fun A outer s H vs Q E hr h => ?_)
  · obtain ⟨sd, hd, m, nm, x, y, lv, p, n, np, dp, e, rfl, _⟩ := h
    rfl
  · have hu := hu_of hr
    refine ⟨_, (pss_cons (ps_set (i := 7) sc_numbers_at.nd rfl (Or.inl rfl) (pe_tup (pa_cons (pv 3) (pa_cons (pv 4) (pa_cons (pv 5) (pa_cons (pv 6) pa_nil))))))
      (pss_cons (ps_if (pt_cmp (pc_dnotin hu (pv 7) (pv 2))) (pss_cons (ps_set (i := 8) sc_numbers_at.nd rfl (Or.inl rfl) (pe_dget hu (pv 0) (pv 3) (fun _ _ => rfl)))
      (pss_cons (ps_set (i := 10) sc_numbers_at.nd rfl (Or.inr rfl) (pe_c c_made_of hr (by omega) rfl (pa_cons (pv 8) pa_nil)))
      (pss_cons (NdefX.ps_ndefMS (st := s_numbers_at_look) (T := Tb K) (nm := nmF) (i := 9) rfl TB rfl tb_first (by kernel_rfl) tb_nm look_free rfl rfl rfl sc_numbers_at.nd rfl (Or.inl rfl) (Or.inl rfl))
      (pss_one (ps_dput hu (pv 2) (pv 7) (pe_cR c_told_by hr (by omega) rfl (fun ok => Caps.made (scope := C8.fnScope s_numbers_at_look) (fr := lookFr) (js := [2, 10, 1, 0]) ok look_free look_fr rfl) (fun _ => rfl) (pa_cons (pv 8) (pa_cons (pe_lc (own := [("one", 11)]) rfl sc_numbers_at.nd (pi_listK (K := K) rfl (pv 10)) (blkOk_by (N := ["stages", "shapes", "memo", "name", "x", "y", "plane", "key", "stage", "look", "parts", "one"]) (sc := defScope s_numbers_at) (by decide +kernel)) (fun _ _ _ _ _ => (pg_name (i := 11) sc_numbers_at.nd rfl (by first | exact Or.inl rfl | exact Or.inr rfl))) (fun _ _ _ _ _ => pts_nil) (fun _ _ _ _ _ => (pe_dget hu (pv 1) (pv 11) (fun _ _ => rfl)))) (pa_cons (pv 9) (pa_cons (pv 4) (pa_cons (pv 5) (pa_cons (pv 6) pa_nil))))))) rfl))))) pss_nil)
      (pss_one (ps_ret (pe_dget hu (pv 2) (pv 7) (fun _ _ => rfl)))))), ?_⟩
    obtain ⟨sd, hd, m, nm, x, y, lv, p, n, np, dp, e, rfl, O, h2, hst, hsh, hnm, hlv, hp, hT, hM, hl, q⟩ := h
    refine ⟨_, rfl, _, rfl, _, rfl, _, rfl, (by rw [sizeLine_eq]; exact Nat.le_of_ble_eq_true rfl), fun ky hky => ?_⟩
    have s1 : Same H (upd H ky (.tup [.str nm, .int x, .int y, .int p])) := Same.new hky
    have eky : (upd H ky (.tup [.str nm, .int x, .int y, .int p])) ky = some (.tup ([Sum.inr nm, Sum.inl x, Sum.inl y, Sum.inl (p : Int)].map kV)) := upd_same
    generalize upd H ky (.tup [.str nm, .int x, .int y, .int p]) = H1 at s1 eky ⊢
    obtain ⟨kvs, em, lm, hmv⟩ := hM.ex
    have em1 := s1 _ _ em
    refine ⟨_, rfl, _, rfl, m, _, rfl, DGet.t em1 eky, ?_⟩
    cases cv : valV kvs [Sum.inr nm, Sum.inl x, Sum.inl y, Sum.inl (p : Int)] with
    | some v =>
      have ev1 := hmv nm x y p v cv
      subst ev1
      refine ⟨_, rfl, ?_⟩
      refine ⟨_, rfl, _, rfl, m, _, rfl, ?_, q H1 (Lk.of s1) (tabsN_same hT s1) (hM.mono (fun kvs z => s1 _ _ z) (by omega))⟩
      rw [← cv]
      exact DGet.t em1 eky
    | none =>
      refine ⟨_, rfl, ?_⟩
      obtain ⟨st, hs⟩ := stg_mem.mp hnm
      obtain ⟨kv2, ed, pr⟩ := id hst
      obtain ⟨ast, eval, hsa⟩ := ent_get pr hs
      have hget : DGet H1 sd (.str nm) (some (.ref ast)) := by
        rw [← eval]
        exact DGet.k (k := Sum.inr nm) (s1 _ _ ed)
      refine ⟨_, rfl, _, rfl, sd, _, rfl, hget, ?_⟩
      refine ⟨_, rfl, ast, st, rfl, hsa.mono (Kp.of s1), fun G1 pl s2 hpl1 epl => ?_⟩
      have s3 : Same H G1 := s1.trans s2
      refine ⟨tabsN_same hT s3, fun f c' G2 eN nn hT2 hf1 ef ec => ?_⟩
      have EX : ExtN H G2 := (ExtN.of s3).trans eN
      have kp2 : Kp K H G2 := Kp.ext EX
      have pl2 : G2 pl = some (.lst (st.parts.map V.str)) := eN _ _ epl fun ps z => by cases z
      obtain ⟨kv3, ehd, hk⟩ := hsh.mono kp2
      have np1 : st.parts.length ≤ 1 := by cases st <;> simp [Stg.parts]
      refine ⟨_, rfl, _, rfl, pl, rfl, ⟨_, SqL.of pl2⟩, fun D hD => ?_⟩
      refine lc_lstG (xs := st.parts.map V.str) (fun G' => Same G2 G') (fun i y G' => ∃ t, y = .ref t ∧ ShpAt G' t np dp) (Same.new hD) (fun G' j2 => SqL.of (j2 _ _ pl2)) (fun G' acc acc' j2 e2 => j2.to' hD) (fun i y Ga Gb ts hh => ?_) (by simp; omega) (fun i2 v G' acc2 Fin2 hx j2 e2 k2 => ?_) fun H3 acc2 j2 e2 el3 ho => ?_
      · obtain ⟨t, e1, e2⟩ := hh
        exact ⟨t, e1, ts _ _ e2⟩
      · rw [List.getElem?_map] at hx
        cases hpt : st.parts[i2]? with
        | none => rw [hpt] at hx; cases hx
        | some q0 =>
          rw [hpt] at hx
          cases hx
          obtain ⟨t, et, hsh1⟩ := hk q0 (O.parts nm st hs q0 (List.mem_of_getElem? hpt)).1
          have hget2 : DGet G' hd (.str q0) (some (.ref t)) := by
            rw [← et]
            exact DGet.k (k := Sum.inr q0) (j2 _ _ ehd)
          refine ⟨rfl, _, rfl, _, rfl, hd, _, rfl, hget2, ?_⟩
          exact k2 _ _ j2 e2 (TupS.refl _) ⟨t, rfl, j2 _ _ hsh1⟩
      · refine ⟨_, rfl, _, rfl, _, rfl, _, rfl, fun cs C free => ?_⟩
        have sW : Same H3 (withC H3 cs) := fun b o z => by
          cases qc : cs b with
          | none => rw [withC_out qc]; exact z
          | some v => rw [free b v qc] at z; cases z
        have cOut : ∀ b o, H3 b = some o → cs b = none := fun b o z => by
          cases qc : cs b with
          | none => rfl
          | some v => rw [free b v qc] at z; cases z
        have kp3 : Kp K H (withC H3 cs) := (kp2.trans (Kp.of j2)).trans (Kp.of sW)
        have f3 := j2 _ _ ef
        have c3 := j2 _ _ ec
        have m3 : ∀ kvs, H m = some (.dT kvs) → H3 m = some (.dT kvs) := fun kvs z => j2 _ _ (EX _ _ z fun ps y => by cases y)
        have ee : tellV st (partG st (ev e)) x y p = ev e nm x y p := by rw [ev_eq O.parts h2 hs]
        refine ⟨ast, _, f, x, y, m, JL K e np dp f c' sd hd m pl _ st.parts cs, partG st (ev e), np, dp, c0, lim, st, p, n, rfl, hsa.mono kp3, O.stg nm st hs, hp,
          ⟨sW _ _ f3, sW _ _ c3, fun c o z => withC_in z, ?_, hM.mono (fun kvs z => sW _ _ (m3 kvs z)) (Nat.le_refl _), hst.mono kp3, hsh.mono kp3, sW _ _ (j2 _ _ pl2)⟩, fun j s => j.same s, fun j le => j.mono le, fun ne => ?_, fun H4 l4 j4 => ⟨j4.ce, ?_⟩⟩
        · rw [less_with free]
          exact tabsN_same hT2 j2
        · obtain ⟨q0, hpq⟩ : ∃ q0, st.parts = [q0] := by
            cases st with
            | src a b c d => exact absurd rfl ne
            | crv a b => exact ⟨a, rfl⟩
            | rnk a b c => exact ⟨a, rfl⟩
          have hq0 := O.parts nm st hs q0 (by rw [hpq]; exact List.mem_singleton.mpr rfl)
          obtain ⟨h', rfl⟩ : ∃ h', h = h' + 1 := ⟨h - 1, by omega⟩
          have eg : partG st (ev e) = ev e q0 := by unfold partG; rw [hpq]
          rw [eg, hpq]
          refine ⟨look_ok T (c_num h' rfl) O h2 C (cOut _ _ f3) (cOut _ _ c3) hq0.1 (by omega), by omega, fun x y p hp => ev_rng O h2 hq0.1 x y hp⟩
        · obtain ⟨kv4, em4, lm4, hm4⟩ := j4.me.ex
          have cm : cs m = none := cOut _ _ (m3 _ em)
          have em5 : lessC H4 cs m = some (.dT kv4) := (lessC_out cm).trans em4
          have lk5 : ∀ b o, b ≠ m → H b = some o → (∀ ps, o ≠ .tbl ps) → lessC H4 cs b = some o := fun b o hb eb nt => by
            have z := j2 _ _ (EX _ _ eb nt)
            rw [lessC_out (cOut _ _ z)]
            exact l4 b o hb (sW _ _ z) nt
          have ky5 : lessC H4 cs ky = some (.tup ([Sum.inr nm, Sum.inl x, Sum.inl y, Sum.inl (p : Int)].map kV)) := by
            have z := j2 _ _ (eN _ _ (s2 _ _ eky) fun ps y => by cases y)
            rw [lessC_out (cOut _ _ z)]
            exact l4 ky _ (ne_of z (m3 _ em) (by intro y; cases y)) (sW _ _ z) fun ps y => by cases y
          rw [ee]
          refine ⟨_, rfl, _, rfl, m, _, rfl, DPut.t em5 ky5 (by rw [sizeLine_eq]; omega), ?_⟩
          have up : upd (lessC H4 cs) m (.dT (putK kv4 [Sum.inr nm, Sum.inl x, Sum.inl y, Sum.inl (p : Int)] (.int (ev e nm x y p)))) m = some _ := upd_same
          refine ⟨_, rfl, _, rfl, m, .int (ev e nm x y p), rfl, ?_, q _ (fun b o hb eb nt => (upd_ne hb).trans (lk5 b o hb eb nt)) (tabsN_upd j4.tb em5 (fun ps z => by cases z) fun c qq z => codeO_ndT z.symm) ⟨_, up, ?_, fun nm2 x2 y2 p2 v hv => ?_⟩⟩
          · have z := DGet.t (k := [Sum.inr nm, Sum.inl x, Sum.inl y, Sum.inl (p : Int)]) up ((upd_ne (ne_of ky5 em5 (by intro y; cases y))).trans ky5)
            rw [valV_put, if_pos rfl] at z
            exact z
          · unfold putK
            split
            · rw [List.length_map]; omega
            · rw [List.length_append]; simp; omega
          · rw [valV_put] at hv
            split at hv
            · rename_i hkey
              cases hv
              simp at hkey
              obtain ⟨k1, k2, k3, k4⟩ := hkey
              subst k1 k2 k3
              have k5 : p2 = p := by omega
              rw [k5]
            · exact hm4 nm2 x2 y2 p2 v hv
end
end K22
end
section
/-! ### planes by a def that tells numbers -/
namespace K22
open PySem PySem.Spec PyProof.Rows L2 LamX NdefX
section
variable {P : Program} {w : World} {K : PySem.W.Frag} {mg : Str → Option Value} {base : Heap}
theorem ok_num (T : Fx K mg w) (TB : TabB base mg (He.cT K ("numbers_at", none)).1 (He.cT K ("numbers_at", none)).2) : Cal P w K mg base 18 "numbers_at" (spNum K 2 651 16000000) [] := by
  have c0 : Cal P w K mg base 6 "numbers_at" (spNum K 0 1 16000000) [] := num_step T TB (kN := 0) (c0 := 0) (by omega) (fun h' e => by omega)
  have c1 : Cal P w K mg base 12 "numbers_at" (spNum K 1 26 16000000) [] := num_step T TB (kN := 6) (c0 := 1) (by omega) (fun h' e => by cases e; exact c0)
  exact num_step T TB (kN := 12) (c0 := 26) (by omega) (fun h' e => by cases e; exact c1)
def spTell (m : Addr) (J : Nat → Hp → Prop) (g : Int → Int → Nat → Int) (np c lim : Nat) : Sp := fun vs H Q _ => ∃ x y, ∃ p n : Nat, vs = [.int x, .int y, .int p] ∧ p < np ∧ J n H ∧ n + c ≤ lim ∧ ∀ H', Lk m H H' → J (n + c) H' → Q (.int (g x y p)) H'
structure TellOk (P : Program) (w : World) (K : PySem.W.Frag) (mg : Str → Option Value) (base : Heap) (k : Nat) (f m : Addr) (J : Nat → Hp → Prop) (g : Int → Int → Nat → Int) (np c lim : Nat) : Prop where
  cb : Cb P w K mg base k f (fun H => ∃ n, J n H) (spTell m J g np c lim)
  same : ∀ {n H H'}, J n H → Same H H' → J n H'
  lst : ∀ {n0 n H0 H D xs} (ys : List V), J n0 H0 → H0 D = none → J n H → H D = some (.lst xs) → J n (upd H D (.lst ys))
  mem : ∀ {n H}, J n H → ∃ kvs, H m = some (.dT kvs)
  mono : ∀ {n n' H}, J n H → n ≤ n' → J n' H
def rowOf (g : Int → Int → Nat → Int) (l y : Int) (wd k : Nat) : List Int := (List.range wd).map fun (i : Nat) => g (l + (i : Int)) y k
def planeOf (g : Int → Int → Nat → Int) (l u : Int) (wd hg k : Nat) : List (List Int) := (List.range hg).map fun (j : Nat) => rowOf g l (u + (j : Int)) wd k
def planesOf (g : Int → Int → Nat → Int) (l u : Int) (wd hg np : Nat) : List (List (List Int)) := (List.range np).map fun k => planeOf g l u wd hg k
def spPlanesBy (P : Program) (w : World) (K : PySem.W.Frag) (mg : Str → Option Value) (base : Heap) (k : Nat) : Sp := fun vs H Q _ => ∃ wn f m J g l u c lim, ∃ np wd hg n : Nat, vs = [.ref wn, .int np, .ref f] ∧ H wn = some (.tup [.int l, .int u, .int wd, .int hg]) ∧ TellOk P w K mg base k f m J g np c lim ∧ J n H ∧ -1000000 ≤ l ∧ l ≤ 1000000 ∧ -1000000 ≤ u ∧ u ≤ 1000000 ∧
  np ≤ 4 ∧ wd ≤ 48 ∧ hg ≤ 48 ∧ n + np * (hg * (wd * c)) ≤ lim ∧ ∀ H' a, Lk m H H' → J (n + np * (hg * (wd * c))) H' → PlanesAt H' a (planesOf g l u wd hg np) → Q (.ref a) H'
theorem sc_planes_by : FnScope ["window", "many", "tell", "left", "up", "wide", "high", "found", "plane", "rows", "y", "x"] ["window", "many", "tell"] (defScope s_planes_by) := ⟨rfl, rfl, rfl, by decide +kernel, rfl, by decide +kernel, by decide +kernel⟩
theorem ok_planes_by (T : Fx K mg w) {k : Nat} : Cal P w K mg base (k + 1) "planes_by" (spPlanesBy P w K mg base k) [] := by
  refine cal_of T.d_planes_by sc_planes_by (fun _ _ _ _ _ _ us hl => match us, hl with | [_, _, _], _ => rfl) (fun vs H Q E h => ?_) (fun cdv A outer s H vs Q E hr h => ?_)
  · obtain ⟨wn, f, m, J, g, l, u, c, lim, np, wd, hg, n, rfl, _⟩ := h
    rfl
  · have hu := hu_of hr
    obtain ⟨wn, f, m, J, g, l, u, c, lim, np, wd, hg, n, rfl, hwn, Lo, hJ, l1, l2, u1, u2, np4, wd4, hg4, hl, q⟩ := h
    have CB := Lo.cb
    refine ⟨_, (pss_cons (ps_asg (pv 0) (pg_tupK (K := K) (n := 4) rfl rfl (pgs_cons (pg_name (i := 3) sc_planes_by.nd rfl (Or.inr rfl)) (pgs_cons (pg_name (i := 4) sc_planes_by.nd rfl (Or.inl rfl)) (pgs_cons (pg_name (i := 5) sc_planes_by.nd rfl (Or.inr rfl)) (pgs_cons (pg_name (i := 6) sc_planes_by.nd rfl (Or.inl rfl)) pgs_nil))))))
      (pss_cons (ps_set (i := 7) sc_planes_by.nd rfl (Or.inl rfl) (pe_lst pa_nil))
      (pss_cons (ps_for PassesOwn.never rfl (pi_range1 (by rfl) T.f_range (pa_cons (pv 1) pa_nil)) (pg_name (i := 8) sc_planes_by.nd rfl (Or.inr rfl)) (pss_cons (ps_setLc (i := 9) (own := [("y", 10)]) rfl sc_planes_by.nd rfl rfl (sw_true rfl rfl rfl (by decide +kernel)) (pi_range2 (by rfl) T.f_range (pa_cons (pv 4) (pa_cons (pe_op op_add (pv 4) (pv 6)) pa_nil))) (blkOk_by (N := ["window", "many", "tell", "left", "up", "wide", "high", "found", "plane", "rows", "y", "x"]) (sc := defScope s_planes_by) (by decide +kernel)) (fun _ _ _ _ _ => (pg_name (i := 10) sc_planes_by.nd rfl (by first | exact Or.inl rfl | exact Or.inr rfl))) (fun _ _ _ _ _ => pts_nil) (fun _ _ _ _ _ => (pe_callTy (call_tupleK (K := K) rfl) (by rfl) T.f_tuple (by decide +kernel) (pa_cons (pe_lc (own := [("x", 11)]) rfl sc_planes_by.nd (pi_range2 (by rfl) T.f_range (pa_cons (pv 3) (pa_cons (pe_op op_add (pv 3) (pv 5)) pa_nil))) (blkOk_by (by kernel_rfl)) (fun _ _ _ _ _ => (pg_name (i := 11) sc_planes_by.nd rfl (by first | exact Or.inl rfl | exact Or.inr rfl))) (fun _ _ _ _ _ => pts_nil) (fun _ _ _ _ _ => (pe_callCb CB hr (by omega) (i := 2) rfl (by first | exact Or.inl rfl | exact Or.inr (Or.inl rfl) | exact Or.inr (Or.inr rfl)) (pa_cons (pv 11) (pa_cons (pv 10) (pa_cons (pv 8) pa_nil)))))) pa_nil))))
      (pss_one (ps_expr (pe_bm PySem.F.plainAttrs_list PySem.F.slot_list_append PySem.F.type_list_append mt_append (pv 7) (pa_cons (pe_callTy (call_tupleK (K := K) rfl) (by rfl) T.f_tuple (by decide +kernel) (pa_cons (pv 9) pa_nil)) pa_nil))))))
      (pss_one (ps_ret (pe_callTy (call_tupleK (K := K) rfl) (by rfl) T.f_tuple (by decide +kernel) (pa_cons (pv 7) pa_nil))))))), ?_⟩
    refine ⟨_, rfl, _, _, rfl, SqT.of (hwn), rfl, _, _, rfl, _, _, rfl, _, _, rfl, _, _, rfl, rfl, ?_⟩
    refine ⟨(by rw [sizeLine_eq]; exact Nat.le_of_ble_eq_true rfl), fun F0 hF0 => ?_⟩
    have s1 : Same H (upd H F0 (.lst [])) := Same.new hF0
    refine ⟨_, rfl, np, rfl, by omega, by omega, ?_⟩
    rw [show ((np : Int)).toNat = np from by omega]
    have hJ0 : J n (upd H F0 (.lst [])) := Lo.same hJ s1
    refine for_any (n := np) (fun i v => v = .int (i : Int)) (fun i σ G => ∃ as o8 o9, σ = [some (.ref wn), some (.int np), some (.ref f), some (.int l), some (.int u), some (.int wd), some (.int hg), some (.ref F0), o8, o9, none, none] ∧ Lk m H G ∧ J (n + i * (hg * (wd * c))) G ∧ G F0 = some (.lst (as.map V.ref)) ∧ as.length = i ∧ ∀ i2, i2 < i → ∃ b, as[i2]? = some b ∧ PlaneAt G b (planeOf g l u wd hg i2))
      ⟨[], none, none, rfl, Lk.of s1, by rw [Nat.zero_mul]; exact hJ0, upd_same, rfl, fun i2 hi2 => absurd hi2 (Nat.not_lt_zero _)⟩ (fun i σ G hi j => ?_) (fun i v σ G N li ev j k => ?_) fun σ G j => ?_
    · obtain ⟨z1, z2⟩ := it_rng (lo := 0) (G := G) hi
      exact ⟨z1, fun lt => ⟨(z2 lt).1, fun x G' y => by
        obtain ⟨a, b⟩ := (z2 lt).2 x G' y
        exact ⟨a, by rw [b]; congr 1; omega⟩⟩⟩
    · obtain ⟨as, o8, o9, rfl, lk, jn, gF, eas, hpl⟩ := j
      subst ev
      have room1 : n + (i + 1) * (hg * (wd * c)) ≤ lim := by
        have z : (i + 1) * (hg * (wd * c)) ≤ np * (hg * (wd * c)) := Nat.mul_le_mul_right _ li
        omega
      rw [Nat.succ_mul, ← Nat.add_assoc] at room1
      generalize hn0 : n + i * (hg * (wd * c)) = n0 at jn room1
      refine ⟨_, rfl, _, rfl, _, rfl, _, _, rfl, rfl, u, u + hg, rfl, ⟨by omega, by omega, by omega, by omega⟩, fun D hD => ?_⟩
      rw [show (u + (hg : Int) - u).toNat = hg from by omega]
      refine lc_anyI (n := hg) (fun j v => v = .int (u + (j : Int))) (fun j G' => Lk m G G' ∧ J (n0 + j * (wd * c)) G') (fun j y G' => ∃ b, y = .ref b ∧ RowAt G' b (rowOf g l (u + (j : Int)) wd i)) ⟨Lk.of (Same.new hD), by rw [Nat.zero_mul]; exact Lo.same jn (Same.new hD)⟩ (fun j G' hj _ => it_rng hj)
        (fun j G' acc acc' jj e => ⟨jj.1.new hD, Lo.lst _ jn hD jj.2 e⟩) (fun j y Ga Gb ts hh => ?_) (by omega) (fun j v G' acc Fin lj ev jj e k2 => ?_) fun G2 acc jj e el ho => ?_
      · obtain ⟨b, e1, e2⟩ := hh
        exact ⟨b, e1, ts _ _ e2⟩
      · subst ev
        obtain ⟨lk2, jn2⟩ := jj
        have room2 : n0 + (j + 1) * (wd * c) ≤ lim := by
          have z : (j + 1) * (wd * c) ≤ hg * (wd * c) := Nat.mul_le_mul_right _ lj
          omega
        rw [Nat.succ_mul, ← Nat.add_assoc] at room2
        have back : n0 + (j + 1) * (wd * c) = n0 + j * (wd * c) + wd * c := by rw [Nat.succ_mul, Nat.add_assoc]
        refine ⟨rfl, _, rfl, _, rfl, _, rfl, _, _, rfl, rfl, l, l + wd, rfl, ⟨by omega, by omega, by omega, by omega⟩, fun D2 hD2 => ?_⟩
        rw [show (l + (wd : Int) - l).toNat = wd from by omega]
        refine lc_anyI (n := wd) (fun i2 v => v = .int (l + (i2 : Int))) (fun i2 G3 => Lk m G' G3 ∧ J (n0 + j * (wd * c) + i2 * c) G3) (fun i2 y _ => y = .int (g (l + (i2 : Int)) (u + (j : Int)) i)) ⟨Lk.of (Same.new hD2), by rw [Nat.zero_mul]; exact Lo.same jn2 (Same.new hD2)⟩ (fun i2 G3 hj _ => it_rng hj)
          (fun i2 G3 acc acc' jj e => ⟨jj.1.new hD2, Lo.lst _ jn2 hD2 jj.2 e⟩) (fun _ _ _ _ _ h => h) (by omega) (fun i2 v G3 acc3 Fin3 li2 ev jj e3 k3 => ?_) fun G4 acc4 jj e4 el4 ho4 => ?_
        · subst ev
          have room3 : n0 + j * (wd * c) + i2 * c + c ≤ lim := by
            have z : (i2 + 1) * c ≤ wd * c := Nat.mul_le_mul_right _ li2
            rw [Nat.succ_mul] at z
            omega
          refine ⟨rfl, rfl, ⟨_, jj.2⟩, _, rfl, _, rfl, _, rfl, ⟨_, jj.2⟩, _, _, i, _, rfl, li, jj.2, room3, fun G5 l5 j5 => ?_⟩
          refine k3 _ _ ⟨jj.1.trans l5, ?_⟩ (l5.lst (Lo.mem jj.2) e3) (l5.tups (Lo.mem jj.2)) rfl
          rw [Nat.succ_mul, ← Nat.add_assoc]
          exact j5
        · have eacc : acc4 = (rowOf g l (u + (j : Int)) wd i).map V.int := by
            unfold rowOf
            rw [List.map_map]
            exact acc_map el4 fun i2 y e => ho4 i2 y e
          subst eacc
          refine ⟨D2, _, rfl, Or.inl ⟨SqL.of e4, fun t ht => ?_⟩⟩
          have s5 := Same.new (o := .tup ((rowOf g l (u + (j : Int)) wd i).map V.int)) ht
          have e0 := jj.1.lst (Lo.mem jn2) e
          refine k2 _ _ ⟨(lk2.trans jj.1).trans (Lk.of s5), ?_⟩ (s5 _ _ e0) (fun b zs z => s5 _ _ (jj.1.tups (Lo.mem jn2) _ _ z)) ⟨t, rfl, upd_same⟩
          rw [back]
          exact Lo.same jj.2 s5
      · obtain ⟨lk2, jn2⟩ := jj
        have lk3 := lk.trans lk2
        have gF2 := lk2.lst (Lo.mem jn) gF
        have hb : ∀ j, j < hg → ∃ b, acc[j]? = some (.ref b) ∧ RowAt G2 b (rowOf g l (u + (j : Int)) wd i) := by
          intro j hj
          have e1 : acc[j]? = some acc[j] := by simp [el, hj]
          obtain ⟨b, e2, e3⟩ := ho j _ e1
          rw [e2] at e1
          exact ⟨b, e1, e3⟩
        refine ⟨_, rfl, Or.inl ⟨rfl, _, SqL.of gF2⟩, ?_⟩
        refine ⟨_, rfl, D, acc, rfl, Or.inl ⟨SqL.of e, fun t ht => ?_⟩⟩
        have s5 := Same.new (o := .tup acc) ht
        have gF3 := s5 _ _ gF2
        refine ⟨F0, _, _, rfl, rfl, gF3, by rw [List.length_map, sizeLine_eq]; omega, ?_⟩
        have j5 := Lo.same jn2 s5
        have nF : ∀ {b zs}, (upd G2 t (.tup acc)) b = some (.tup zs) → (upd (upd G2 t (.tup acc)) F0 (.lst (as.map V.ref ++ [V.ref t]))) b = some (.tup zs) := fun {b zs} z => (upd_ne (ne_of z gF3 (by intro y; cases y))).trans z
        have ts : TupS (upd G2 t (.tup acc)) (upd (upd G2 t (.tup acc)) F0 (.lst (as.map V.ref ++ [V.ref t]))) := fun b zs z => nF z
        refine k _ _ ⟨as ++ [t], _, _, rfl, (lk3.trans (Lk.of s5)).new hF0, ?_, ?_, by simp [eas], fun i2 hi2 => ?_⟩
        · have z := Lo.lst (as.map V.ref ++ [V.ref t]) hJ hF0 j5 gF3
          rw [Nat.succ_mul, ← Nat.add_assoc, hn0]
          exact z
        · rw [upd_same, List.map_append]
          rfl
        · by_cases c1 : i2 < i
          · obtain ⟨b, e1, e2⟩ := hpl i2 c1
            refine ⟨b, by rw [List.getElem?_append_left (by omega)]; exact e1, PlaneAt.mono e2 fun b zs z => ts _ _ (s5 _ _ (lk2.tups (Lo.mem jn) _ _ z))⟩
          · have e1 : i2 = i := by omega
            subst e1
            refine ⟨t, by rw [List.getElem?_append_right (by omega), eas]; simp, ?_⟩
            refine ⟨acc.map fun v => match v with | .ref b => b | _ => 0, ?_, by simp [planeOf, el], fun j r hr2 => ?_⟩
            · have e2 : ((acc.map fun v => match v with | .ref b => b | _ => 0).map V.ref) = acc := by
                apply List.ext_getElem?
                intro j
                by_cases hj : j < hg
                · obtain ⟨b, e1, _⟩ := hb j hj
                  rw [List.getElem?_map, List.getElem?_map, e1]
                  rfl
                · rw [List.getElem?_eq_none (by simp; omega), List.getElem?_eq_none (by omega)]
              rw [e2]
              exact ts _ _ upd_same
            · have lj : j < hg := by
                have := (List.getElem?_eq_some_iff.mp hr2).1
                simpa [planeOf] using this
              obtain ⟨b, e1, e2⟩ := hb j lj
              have er : r = rowOf g l (u + (j : Int)) wd i2 := by
                unfold planeOf at hr2
                rw [List.getElem?_map, List.getElem?_range lj] at hr2
                exact (Option.some.inj hr2).symm
              subst er
              exact ⟨b, by rw [List.getElem?_map, e1]; rfl, ts _ _ (s5 _ _ e2)⟩
    · obtain ⟨as, o8, o9, rfl, lk, jn, gF, eas, hpl⟩ := j
      refine ⟨_, rfl, F0, _, rfl, Or.inl ⟨SqL.of gF, fun t ht => ?_⟩⟩
      have s5 := Same.new (o := .tup (as.map V.ref)) ht
      refine q _ t (lk.trans (Lk.of s5)) (Lo.same jn s5) ⟨as, upd_same, by simp [planesOf, eas], fun i pl hpl2 => ?_⟩
      have li : i < np := by
        have := (List.getElem?_eq_some_iff.mp hpl2).1
        simpa [planesOf] using this
      obtain ⟨b, e1, e2⟩ := hpl i li
      have er : pl = planeOf g l u wd hg i := by
        unfold planesOf at hpl2
        rw [List.getElem?_map, List.getElem?_range li] at hpl2
        exact (Option.some.inj hpl2).symm
      subst er
      exact ⟨b, e1, PlaneAt.mono e2 (TupS.of s5)⟩
end
end K22
end
section
/-! ### nets: what they refuse, how they are made -/
namespace K22
open PySem PySem.Spec PyProof.Rows L2 LamX NdefX
section
variable {P : Program} {w : World} {K : PySem.W.Frag} {mg : Str → Option Value} {base : Heap}
def spThere : Sp := fun vs H Q _ => ∃ sd nm kvs, vs = [.ref sd, .str nm] ∧ H sd = some (.dK kvs) ∧ (valV kvs (Sum.inr nm)).isSome = true ∧ Q .non H
theorem sc_must_be_there : FnScope ["stages", "name"] ["stages", "name"] (defScope s_must_be_there) := ⟨rfl, rfl, rfl, by decide +kernel, rfl, by decide +kernel, by decide +kernel⟩
theorem ok_must_be_there (T : Fx K mg w) : Cal P w K mg base 1 "must_be_there" spThere [] := by
  refine cal_of T.d_must_be_there sc_must_be_there (fun _ _ _ _ _ _ us hl => match us, hl with | [_, _], _ => rfl) (fun vs H Q E h => ?_) (fun cdv A outer s H vs Q E hr h => ?_)
  · obtain ⟨sd, nm, kvs, rfl, _⟩ := h
    rfl
  · have hu := hu_of hr
    refine ⟨_, (pss_one (ps_if (PW.pt (pw_or (pt_not (pt_val (pe_callB (id := "isinstance") (cr_isiK (K := K) rfl) (by rfl) T.f_isinstance (by decide +kernel) (pa_cons (pv 1) (pa_cons (pe_bltn (v := .ty "str") (by rfl) T.f_str (by decide +kernel) rfl) pa_nil))))) (pw_or1 (pt_cmp (pc_dnotin hu (pv 1) (pv 0)))))) pss_never pss_nil)), ?_⟩
    obtain ⟨sd, nm, kvs, rfl, ed, hs, q⟩ := h
    refine ⟨_, rfl, .str _, .ty "str", .type "str", .type "str", true, rfl, .ty _, .base (.str _), kit_ty (by decide +kernel), true, rfl, iteF ?_⟩
    refine ⟨_, rfl, _, rfl, sd, _, rfl, DGet.k (k := Sum.inr nm) ed, _, rfl, ?_⟩
    exact if_notB hs q
def spMbw : Sp := fun vs H Q _ => ∃ a l u wd hg, vs = [.ref a] ∧ H a = some (.tup [.int l, .int u, .int wd, .int hg]) ∧ -1000 ≤ l ∧ l ≤ 1000 ∧ -1000 ≤ u ∧ u ≤ 1000 ∧ 1 ≤ wd ∧ wd ≤ 48 ∧ 1 ≤ hg ∧ hg ≤ 48 ∧ Q .non H
theorem sc_must_be_window : FnScope ["window"] ["window"] (defScope s_must_be_window) := ⟨rfl, rfl, rfl, by decide +kernel, rfl, by decide +kernel, by decide +kernel⟩
theorem ok_must_be_window (T : Fx K mg w) : Cal P w K mg base 4 "must_be_window" spMbw [] := by
  have c_is_window : Cal P w K mg base 3 "is_window" spWindow [] := ok_is_window T
  refine cal_of T.d_must_be_window sc_must_be_window (fun _ _ _ _ _ _ us hl => match us, hl with | [_], _ => rfl) (fun vs H Q E h => ?_) (fun cdv A outer s H vs Q E hr h => ?_)
  · obtain ⟨a, l, u, wd, hg, rfl, _⟩ := h
    rfl
  · refine ⟨_, (pss_one (ps_if (pt_not (pt_val (pe_c c_is_window hr (by omega) rfl (pa_cons (pv 0) pa_nil)))) pss_never pss_nil)), ?_⟩
    obtain ⟨a, l, u, wd, hg, rfl, ha, l1, l2, u1, u2, w1, w2, h1, h2, q⟩ := h
    exact ⟨_, rfl, a, l, u, wd, hg, rfl, ha, l1, l2, u1, u2, w1, w2, h1, h2, true, rfl, q⟩
/-! Net() -/
def spNetInit (K : PySem.W.Frag) : Sp := fun vs H Q _ => ∃ x dx, vs = [.ref x] ∧ H x = some (.ins (He.ga K "Net") dx []) ∧ ∀ H' sd hd, (∀ b o, b ≠ x → H b = some o → H' b = some o) → H' x = some (.ins (He.ga K "Net") dx [("stages", .ref sd), ("shapes", .ref hd)]) → H' sd = some (.dK []) → H' hd = some (.dK []) → Q .non H'
theorem sc_Net_init : FnScope ["self"] ["self"] (defScope sNet_init) := ⟨rfl, rfl, rfl, by decide +kernel, rfl, by decide +kernel, by decide +kernel⟩
theorem fn_net (T : Fx K mg w) {fd : FuncData} (F : FunD K "__init__" "Net.__init__" (defArgs sNet_init) (defBody sNet_init) (defScope sNet_init) [] [] (He.ma K (He.ga K "Net") "__init__") fd) :
    FnOk P w K mg base CX0 1 (He.ma K (He.ga K "Net") "__init__") fd ["self"] (spNetInit K) := by
  refine fn_kw F sc_Net_init (fun vs H Q E h => ?_) (fun cdv A outer s H vs Q E hr h => ?_)
  · obtain ⟨x, dx, rfl, _⟩ := h
    rfl
  · refine ⟨_, (pss_cons (ps_fld (pv 0) pe_dnewK rfl)
      (pss_one (ps_fld (pv 0) pe_dnewK rfl))), ?_⟩
    obtain ⟨x, dx, rfl, hx, q⟩ := h
    intro sd hsd
    have s1 := Same.new (o := .dK []) hsd
    have nx1 := ne_of_none hx hsd
    refine ⟨_, rfl, x, _, dx, [], rfl, s1 _ _ hx, T.cl_Net, T.na_stages, (by simp), ?_⟩
    intro hd hhd
    refine ⟨_, rfl, x, _, dx, [("stages", .ref sd)], rfl, (upd_ne (ne_of_none upd_same hhd)).trans upd_same, T.cl_Net, T.na_shapes, (by simp), ?_⟩
    refine q _ sd hd (fun b o ne e => ?_) upd_same ?_ ?_
    · rw [upd_ne ne, upd_ne (ne_of_none (show (upd (upd H sd (.dK [])) x _) b = some o from (upd_ne ne).trans (s1 _ _ e)) hhd), upd_ne ne]
      exact s1 _ _ e
    · have z : (upd (upd H sd (.dK [])) x (.ins (He.ga K "Net") dx (putF "stages" (.ref sd) []))) sd = some (.dK []) := (upd_ne nx1.symm).trans upd_same
      rw [upd_ne nx1.symm, upd_ne (ne_of_none z hhd)]
      exact z
    · rw [upd_ne (ne_of_none (o := .ins (He.ga K "Net") dx (putF "stages" (.ref sd) [])) upd_same hhd).symm]
      exact upd_same
structure Mak (P : Program) (w : World) (K : PySem.W.Frag) (mg : Str → Option Value) (base : Heap) (k : Nat) (x : Str) (sp : Sp) : Prop where
  ex : ∃ (f : Addr) (fd : FuncData) (ps : List Str), Mk K (He.ga K x) f ∧ FnOk P w K mg base CX0 k f fd ps sp ∧ mg x = some (.ref (He.ga K x)) ∧ Binds K fd ps []
theorem pe_mk0 {X : Cx} {k j : Nat} {x : Str} {sp : Sp} {p pos : Pos} (c : Mak X.prog X.w X.K X.mg X.base k x sp) (hr : Room j X.A) (hk : k + 1 ≤ j) (hg : Gl X x) (hdb : (x == ("__debug__" : Str)) = false := by decide) :
    PE X (.Call (.Name x p) [] [] pos) (tMake (He.ga X.K x) sp [] E0 tNil) := by
  obtain ⟨f, fd, ps, M, F, hm, b⟩ := c.ex
  exact pe_make0 M F (hr.mono hk) hg hm b .nil pass0 hdb
theorem mk_net (T : Fx K mg w) : Mak P w K mg base 1 "Net" (spNetInit K) := by
  obtain ⟨fd, F⟩ := T.dNet_init
  obtain ⟨u, hm, hv⟩ := T.c_Net
  cases hv
  exact ⟨_, fd, _, T.mk_Net, fn_net T F, hm, F.bindsN fun _ _ _ _ _ _ us hl => match us, hl with | [_], _ => rfl⟩
/-! put -/
theorem putE_len (e : Nt) (nm : Str) (st : Stg) : e.length ≤ (putE e nm st).length := by
  unfold putE
  split
  · rw [List.length_map]; exact Nat.le_refl _
  · simp
theorem nms_len (e : Nt) : (nms e).length = e.length := by unfold nms; rw [List.length_map]
theorem kp_net {K : PySem.W.Frag} {H : Hp} {net C dx : Addr} {a b : V} {o : HO} (h : H net = some (.ins C dx [("stages", a), ("shapes", b)])) : Kp K H (upd H net o) := fun c u e fz => by
  rw [upd_ne (ne_of e h fun z => by subst z; exact absurd (show 2 = 4 from fz) (by decide))]
  exact e
structure NetAt (K : PySem.W.Frag) (H : Hp) (net : Addr) (e : Nt) (np dp : Nat) : Prop where
  ex : ∃ dx sd hd, H net = some (.ins (He.ga K "Net") dx [("stages", .ref sd), ("shapes", .ref hd)]) ∧ StagesAt K H sd e ∧ ShapesAt H hd (nms e) np dp
def spPut (K : PySem.W.Frag) : Sp := fun vs H Q _ => ∃ net nm a lv, ∃ np dp : Nat, ∃ st : Stg, ∃ e : Nt, vs = [.ref net, .str nm, .ref a] ∧ dp ≤ 65535 ∧ NetAt K H net e np dp ∧ StgAt K H a st ∧ OkName nm ∧ OkStg np dp st ∧ OkNt np dp lv (putE e nm st) ∧
  ∀ H', (∀ b o, b ≠ net → H b = some o → H' b = some o) → NetAt K H' net (putE e nm st) np dp → Q .non H'
theorem sc_Net_put : FnScope ["self", "name", "stage", "fresh", "missing", "shapes"] ["self", "name", "stage"] (defScope sNet_put) := ⟨rfl, rfl, rfl, by decide +kernel, rfl, by decide +kernel, by decide +kernel⟩
theorem ok_put (T : Fx K mg w) : Met P w K mg base 9 (He.ga K "Net") "put" (spPut K) := by
  have c_is_name : Cal P w K mg base 1 "is_name" spName [] := ok_is_name T
  have c_has_no_divisor : Cal P w K mg base 1 "has_no_divisor" (spDiv K) [] := ok_has_no_divisor T
  have c_first_missing : Cal P w K mg base 3 "first_missing" (spFirst K) [] := ok_first_missing T
  have c_in_order : Cal P w K mg base 3 "in_order" (spOrder K) [] := ok_in_order T
  obtain ⟨fd, F⟩ := T.dNet_put
  refine met_of T.cl_Net T.me_put F sc_Net_put (fun _ _ _ _ _ _ us hl => match us, hl with | [_, _, _], _ => rfl) (fun vs H Q E h => ?_) (fun cdv A outer s H vs Q E hr h => ?_)
  · obtain ⟨net, nm, a, lv, np, dp, st, e, rfl, _⟩ := h
    rfl
  · have hu := hu_of hr
    obtain ⟨net, nm, a, lv, np, dp, st, e, rfl, hdp, hN, hst, okn, O, On, q⟩ := h
    have c_is_stage : Cal P w K mg base 7 "is_stage" (spIsStage K np dp) [] := ok_is_stage T hdp
    have c_shapes_of : Cal P w K mg base 4 "shapes_of" (spShapes K np dp) [] := ok_shapes_of T
    refine ⟨_, (pss_cons (ps_if (pt_not (pt_val (pe_c c_is_name hr (by omega) rfl (pa_cons (pv 1) pa_nil)))) pss_never pss_nil)
      (pss_cons (ps_if (pt_not (pt_val (pe_c c_is_stage hr (by omega) rfl (pa_cons (pv 2) pa_nil)))) pss_never pss_nil)
      (pss_cons (ps_if (pt_val (pe_c c_has_no_divisor hr (by omega) rfl (pa_cons (pv 2) pa_nil))) pss_never pss_nil)
      (pss_cons (ps_set (i := 3) sc_Net_put.nd rfl (Or.inl rfl) (pe_callTy call_dictD (by rfl) T.f_dict (by decide +kernel) (pa_cons (pe_fld (pv 0) rfl) pa_nil)))
      (pss_cons (ps_dput hu (pv 3) (pv 1) (pv 2) rfl)
      (pss_cons (ps_set (i := 4) sc_Net_put.nd rfl (Or.inl rfl) (pe_c c_first_missing hr (by omega) rfl (pa_cons (pv 2) (pa_cons (pv 3) pa_nil))))
      (pss_cons (ps_if (pt_cmpR op_notN (pv 4) pe_non (nomark _)) pss_never pss_nil)
      (pss_cons (ps_if (pt_cmpR op_isN (pe_c c_in_order hr (by omega) rfl (pa_cons (pv 3) pa_nil)) pe_non (nomark _)) pss_never pss_nil)
      (pss_cons (ps_set (i := 5) sc_Net_put.nd rfl (Or.inl rfl) (pe_c c_shapes_of hr (by omega) rfl (pa_cons (pv 3) pa_nil)))
      (pss_cons (ps_if (pt_cmpR op_gt (pe_callB (id := "len") call_lenD (by rfl) T.f_len (by decide +kernel) (pa_cons (pv 3) pa_nil)) (C8.pe_gc rfl T.g_MOST_STAGES) (nomark _)) pss_never pss_nil)
      (pss_cons (ps_fld (pv 0) (pv 3) rfl)
      (pss_one (ps_fld (pv 0) (pv 5) rfl))))))))))))), ?_⟩
    obtain ⟨⟨dx, sd, hd, hnet, hsd, hhd⟩⟩ := hN
    obtain ⟨kvs, ed, pr⟩ := id hsd
    refine ⟨_, rfl, nm, rfl, okn, fun H1 s1 => ⟨true, rfl, iteF ?_⟩⟩
    refine ⟨_, rfl, a, st, rfl, hst.mono (Kp.of s1), O, fun H2 s2 => ⟨true, rfl, iteF ?_⟩⟩
    have s3 := s1.trans s2
    refine ⟨_, rfl, a, st, rfl, hst.mono (Kp.of s3), false, rfl, iteF ?_⟩
    refine ⟨_, rfl, _, _, _, _, _, rfl, (s3 _ _ hnet), T.cl_Net, T.na_stages, rfl, sd, kvs, rfl, Or.inl (s3 _ _ ed), fun fr hfr => ?_⟩
    have hst3 : StgAt K (upd H2 fr (.dK kvs)) a st := hst.mono (Kp.of (s3.trans (Same.new hfr)))
    refine ⟨_, rfl, _, rfl, _, rfl, fr, _, rfl, DPut.k (k := Sum.inr nm) upd_same (by have z1 := pr_len pr; have z2 := On.len; have z3 := putE_len e nm st; rw [sizeLine_eq]; omega), ?_⟩
    have hfrH : H fr = none := by
      cases z : H fr with
      | none => rfl
      | some o => rw [s3 _ _ z] at hfr; cases hfr
    have s4 : Same H (upd (upd H2 fr (.dK kvs)) fr (.dK (putK kvs (Sum.inr nm) (.ref a)))) := (s3.to hfrH).to hfrH
    have st4 : StagesAt K (upd (upd H2 fr (.dK kvs)) fr (.dK (putK kvs (Sum.inr nm) (.ref a)))) fr (putE e nm st) :=
      ⟨_, upd_same, ent_put (pr_imp (fun _ _ z => z.mono (Kp.of s4)) pr) (hst.mono (Kp.of s4))⟩
    have es : (upd (upd H2 fr (.dK kvs)) fr (.dK (putK kvs (Sum.inr nm) (.ref a)))) fr = some (.dK (putK kvs (Sum.inr nm) (.ref a))) := upd_same
    generalize upd (upd H2 fr (.dK kvs)) fr (.dK (putK kvs (Sum.inr nm) (.ref a))) = H4 at s4 st4 es ⊢
    obtain ⟨kv5, e5, pr5⟩ := id st4
    rw [es] at e5
    cases e5
    have hnm : stg? (putE e nm st) nm = some st := by rw [stg_put, if_pos rfl]
    refine ⟨_, rfl, _, rfl, a, fr, _, st, rfl, hst.mono (Kp.of s4), es, fun p hp => ent_some pr5 (On.parts nm st hnm p hp).1, fun H5 s5 => ?_⟩
    refine ⟨_, rfl, rfl, _, rfl, if_nottrue rfl ?_⟩
    have le := On.len
    refine ⟨_, rfl, fr, lv, putE e nm st, rfl, st4.mono (Kp.of s5), On.parts, On.names, by omega, fun H6 l fs s6 hl6 el od => ?_⟩
    refine ⟨rfl, _, rfl, if_Bf (by simp) ?_⟩
    have s7 : Same H4 H6 := s5.trans s6
    refine ⟨_, rfl, fr, lv, putE e nm st, rfl, st4.mono (Kp.of s7), On, fun H7 hd7 s8 hn7 hsh7 => ?_⟩
    have s9 : Same H4 H7 := s7.trans s8
    have s10 : Same H H7 := s4.trans s9
    refine ⟨_, rfl, fr, _, rfl, s9 _ _ es, _, _, rfl, rfl, _, rfl, if_false (by have := pr_len pr5; omega) ?_⟩
    have n7 := s10 _ _ hnet
    refine ⟨_, rfl, _, rfl, net, _, dx, _, rfl, n7, T.cl_Net, T.na_stages, (by simp), ?_⟩
    refine ⟨_, rfl, _, rfl, net, _, dx, [("stages", .ref fr), ("shapes", .ref hd)], rfl, upd_same, T.cl_Net, T.na_shapes, (by simp), ?_⟩
    have k1 : Kp K H7 (upd H7 net (.ins (He.ga K "Net") dx [("stages", .ref fr), ("shapes", .ref hd)])) := kp_net n7
    have k2 : Kp K (upd H7 net (.ins (He.ga K "Net") dx [("stages", .ref fr), ("shapes", .ref hd)])) (upd (upd H7 net (.ins (He.ga K "Net") dx [("stages", .ref fr), ("shapes", .ref hd)])) net (.ins (He.ga K "Net") dx [("stages", .ref fr), ("shapes", .ref hd7)])) := kp_net upd_same
    refine q _ (fun b o ne eb => ?_) ⟨dx, fr, hd7, upd_same, (st4.mono (Kp.of s9)).mono (k1.trans k2), hsh7.mono (k1.trans k2)⟩
    exact (upd_ne ne).trans ((upd_ne ne).trans (s10 _ _ eb))
end
end K22
end
section
/-! ### the whole picture of a window -/
namespace K22
open PySem PySem.Spec PyProof.Rows L2 LamX NdefX
abbrev sNet_whole_tell : Stmt := (defBody sNet_whole).getD 4 (.Pass ⟨0, 0, 0, 0⟩)
abbrev tellFr : List Str := ["memo", "name", "shapes", "stages"]
theorem tell_free : ∀ y ∈ (C8.fnScope sNet_whole_tell).names, y.2 = .free → (defScope sNet_whole).names.lookup y.1 = some .cell ∨ (defScope sNet_whole).names.lookup y.1 = some .free := by decide +kernel
theorem tell_fr : ∀ y ∈ tellFr, (y, NameKind.free) ∈ (C8.fnScope sNet_whole_tell).names := by decide +kernel
theorem tell_sc : NScope ["x", "y", "plane", "memo", "name", "shapes", "stages"] ["x", "y", "plane"] tellFr (C8.fnScope sNet_whole_tell) := nscope_by (by decide +kernel)
section
variable {P : Program} {w : World} {K : PySem.W.Frag} {mg : Str → Option Value} {base : Heap}
def spTl (K : PySem.W.Frag) (h c lim : Nat) : List (Option V) → Sp := fun ws vs H Q E => ∃ sd hd m nm x y, ∃ p : Nat, ws = [some (.ref m), some (.str nm), some (.ref hd), some (.ref sd)] ∧ vs = [.int x, .int y, .int p] ∧
  spNum K h c lim [.ref sd, .ref hd, .ref m, .str nm, .int x, .int y, .int p] H Q E
theorem nok_tell (T : Fx K mg w) {kN h c lim : Nat} (c_numbers_at : Cal P w K mg base kN "numbers_at" (spNum K h c lim) []) {f : Addr} {qual : Str} {cl : List (Str × Addr)} {c' : Addr} :
    NOk P w K mg base CX0 (kN + 1) f (NF.of sNet_whole_tell "tell" qual cl c') ["x", "y", "plane"] tellFr (spTl K h c lim) := by
  refine nok_of tell_sc (fun _ _ _ us hl => match us, hl with | [_, _, _], _ => rfl) (fun ws vs H Q E hh => ?_) (fun A outer s H vs ws Q E hr hf hc hw hh => ?_)
  · obtain ⟨sd, hd, m, nm, x, y, p, _, rfl, _⟩ := hh
    rfl
  · refine ⟨_, (pss_one (ps_ret (pe_c c_numbers_at hr (by omega) rfl (pa_cons (pv 6) (pa_cons (pv 5) (pa_cons (pv 3) (pa_cons (pv 4) (pa_cons (pv 0) (pa_cons (pv 1) (pa_cons (pv 2) pa_nil)))))))))), ?_⟩
    obtain ⟨sd, hd, m, nm, x, y, p, rfl, rfl, hn⟩ := hh
    exact ⟨_, rfl, _, rfl, _, rfl, _, rfl, _, rfl, _, rfl, _, rfl, hn⟩
/-- what tell holds on to -/
structure JT (K : PySem.W.Frag) (e : Nt) (np dp : Nat) (f c' sd hd m : Addr) (F : NF) (cs : Cs) (n : Nat) (G : Hp) : Prop where
  fn : G f = some (FnO f F)
  co : G c' = some (CodeO c' F.qual)
  ce : ∀ c o, cs c = some o → G c = some (CellO c o)
  tb : TabsN (Tb K) (lessC G cs)
  me : MemoAt m (ev e) n G
  st : StagesAt K G sd e
  sh : ShapesAt G hd (nms e) np dp
section
variable {e : Nt} {np dp : Nat} {f c' sd hd m : Addr} {F : NF} {cs : Cs} {n n' : Nat} {G G' : Hp}
theorem JT.same (j : JT K e np dp f c' sd hd m F cs n G) (s : Same G G') : JT K e np dp f c' sd hd m F cs n G' :=
  ⟨s _ _ j.fn, s _ _ j.co, fun c o z => s _ _ (j.ce c o z), (j.tb.ext fun b o z => by
    cases q : cs b with
    | none => rw [lessC_out q] at z ⊢; exact s _ _ z
    | some v => rw [lessC_in q] at z; cases z), j.me.mono (fun kvs z => s _ _ z) (Nat.le_refl _), j.st.mono (Kp.of s), j.sh.mono (K := K) (Kp.of s)⟩
theorem JT.mono (j : JT K e np dp f c' sd hd m F cs n G) (le : n ≤ n') : JT K e np dp f c' sd hd m F cs n' G :=
  ⟨j.fn, j.co, j.ce, j.tb, j.me.mono (fun _ z => z) le, j.st, j.sh⟩
theorem JT.lst {D : Addr} {xs : List V} (ys : List V) (j : JT K e np dp f c' sd hd m F cs n G) (hD : G D = some (.lst xs)) : JT K e np dp f c' sd hd m F cs n (upd G D (.lst ys)) := by
  have kp : Kp K G (upd G D (.lst ys)) := fun b o z fz => by
    rw [upd_ne (ne_of z hD fun y => by subst y; exact fz)]
    exact z
  have cD : cs D = none := by
    cases q : cs D with
    | none => rfl
    | some o => rw [j.ce D o q] at hD; exact absurd (Option.some.inj hD) cellO_nlst
  refine ⟨(upd_ne (ne_of j.fn hD fnO_nlst)).trans j.fn, (upd_ne (ne_of j.co hD codeO_nlst)).trans j.co, fun c o z => (upd_ne (ne_of (j.ce c o z) hD cellO_nlst)).trans (j.ce c o z), ?_, j.me.mono (fun kvs z => (upd_ne (ne_of z hD (by intro y; cases y))).trans z) (Nat.le_refl _), j.st.mono kp, j.sh.mono kp⟩
  rw [lessC_upd cD]
  refine tabsN_upd j.tb (u := .lst xs) (by rw [lessC_out cD]; exact hD) (fun ps z => by cases z) (fun c q z => codeO_nlst z.symm)
end
theorem tell_ok (T : Fx K mg w) {kN h c0 lim : Nat} (c_num : Cal P w K mg base kN "numbers_at" (spNum K h c0 lim) []) {e : Nt} {np dp : Nat} {lv : Str → Nat} (O : OkNt np dp lv e) (h2 : ∀ nm, lv nm ≤ 2)
    {qual nm : Str} {cl : List (Str × Addr)} {cs : Cs} {f c' m hd sd : Addr} (C : CellsS cl tellFr [some (.ref m), some (.str nm), some (.ref hd), some (.ref sd)] cs) (nF : cs f = none) (nC : cs c' = none) (hq : nm ∈ nms e) (hlv : lv nm ≤ h) :
    TellOk P w K mg base (kN + 1) f m (JT K e np dp f c' sd hd m (NF.of sNet_whole_tell "tell" qual cl c') cs) (ev e nm) np c0 lim where
  same := fun j s => j.same s
  lst := fun ys _ _ j hD => j.lst ys hD
  mem := fun j => by
    obtain ⟨kvs, z, _⟩ := j.me.ex
    exact ⟨kvs, z⟩
  mono := fun j le => j.mono le
  cb := by
    refine cb_of (F := NF.of sNet_whole_tell "tell" qual cl c') (nok_tell T c_num) C nF nC (fun H j => ?_) fun vs H Q E j hs => ?_
    · obtain ⟨n, j⟩ := j
      exact ⟨j.fn, j.co, j.ce⟩
    · obtain ⟨x, y, p, n, rfl, hp, j, hl, k⟩ := hs
      have kp := kp_less (K := K) j.ce
      have cm : cs m = none := by
        obtain ⟨kvs, z, _⟩ := j.me.ex
        cases q : cs m with
        | none => rfl
        | some o => rw [j.ce m o q] at z; exact absurd (Option.some.inj z) cellO_ndT
      refine ⟨sd, hd, m, nm, x, y, p, rfl, rfl, sd, hd, m, nm, x, y, lv, p, n, np, dp, e, rfl, O, h2, j.st.mono kp, j.sh.mono kp, hq, hlv, hp, j.tb, j.me.mono (fun kvs z => (lessC_out cm).trans z) (Nat.le_refl _), hl, fun G' l' t' m' free => ?_⟩
      have back : ∀ b, cs b = none → withC G' cs b = G' b := fun b z => withC_out z
      have lk : Lk m H (withC G' cs) := fun b o ne eb nt => by
        cases q : cs b with
        | none => rw [back b q]; exact l' b o ne ((lessC_out q).trans eb) nt
        | some v =>
          rw [j.ce b v q] at eb
          cases eb
          exact withC_in q
      have ne_m : ∀ b o, H b = some o → (∀ kvs, o ≠ .dT kvs) → b ≠ m := fun b o eb z y => by
        obtain ⟨kvs, em, _⟩ := j.me.ex
        rw [y, em] at eb
        exact z kvs (Option.some.inj eb).symm
      refine k _ lk ⟨?_, ?_, fun c o z => withC_in z, ?_, ?_, ?_, ?_⟩
      · exact lk f _ (ne_m _ _ j.fn fun kvs => fnO_ndT) j.fn fun ps => fnO_ne ps
      · exact lk c' _ (ne_m _ _ j.co fun kvs => codeO_ndT) j.co fun ps => codeO_ne ps
      · rw [less_with free]
        exact t'
      · exact m'.mono (fun kvs z => (back m cm).trans z) (Nat.le_refl _)
      · refine j.st.mono fun b o z fz => lk b o (ne_m b o z fun kvs y => by subst y; exact fz) z fun ps y => by subst y; exact fz
      · refine j.sh.mono (K := K) fun b o z fz => lk b o (ne_m b o z fun kvs y => by subst y; exact fz) z fun ps y => by subst y; exact fz
theorem planesOf_ok {e : Nt} {np dp wd hg : Nat} {lv : Str → Nat} (O : OkNt np dp lv e) (h2 : ∀ nm, lv nm ≤ 2) {nm : Str} (hm : nm ∈ nms e) {l u : Int} (n1 : 1 ≤ np) (n2 : np ≤ 4) (w1 : 1 ≤ wd) (w2 : wd ≤ 48) (h1 : 1 ≤ hg) (h3 : hg ≤ 48) : OkPl np wd hg (dp : Int) (planesOf (ev e nm) l u wd hg np) := by
  refine ⟨by simp [planesOf], fun p hp => ?_, fun p hp r hr => ?_, fun p hp r hr z hz => ?_, n1, n2, w1, w2, h1, h3⟩
  · unfold planesOf at hp
    obtain ⟨k, _, rfl⟩ := List.mem_map.mp hp
    simp [planeOf]
  · unfold planesOf at hp
    obtain ⟨k, _, rfl⟩ := List.mem_map.mp hp
    unfold planeOf at hr
    obtain ⟨j, _, rfl⟩ := List.mem_map.mp hr
    simp [rowOf]
  · unfold planesOf at hp
    obtain ⟨k, hk, rfl⟩ := List.mem_map.mp hp
    unfold planeOf at hr
    obtain ⟨j, _, rfl⟩ := List.mem_map.mp hr
    unfold rowOf at hz
    obtain ⟨i, _, rfl⟩ := List.mem_map.mp hz
    exact ev_rng O h2 hm _ _ (List.mem_range.mp hk)
/-! whole -/
theorem met_ofC {k : Nat} {sp : Sp} {st : Stmt} {N ps : List Str} {c m q : Str} (cl : Cls K (He.ga K c)) (me : Meth K (He.ga K c) m (He.ma K (He.ga K c) m)) {fd : FuncData} (F : FunD K m q (defArgs st) (defBody st) (defScope st) [] [] (He.ma K (He.ga K c) m) fd) (S : FnScope N ps (defScope st))
    (hb : ∀ (kV doc pm : Value) (an : Option Addr) (cdv ct : Value) (us : List Value), us.length = ps.length → bindArgs (PySem.W.fnOf m q (defArgs st) (defBody st) (defScope st) .none kV doc pm an cdv ct) ⟨us, []⟩ = pure (ps.zip us))
    (len : ∀ vs H Q E, sp vs H Q E → vs.length = ps.length)
    (hbody : ∀ (A : Around) (outer : List Env) (s : Shared) (H : Hp) (vs : List V) (Q : VK) (E : XK), Room k (A.deeper (envOfC q (defScope st) s.heap.objs.size (He.ma K (He.ga K c) m) (.ref (He.codeOf K (c, some m))))) → sp vs H Q E →
      ∃ t, PSs (cxOf CX0 P w K mg base N q (defScope st) (He.ma K (He.ga K c) m) (.ref (He.codeOf K (c, some m))) A outer s H E).nox (defBody st) t ∧ t { nx := fun _ H' => Q .non H', rt := Q } (start N vs) H) : Met P w K mg base (k + 1) (He.ga K c) m sp := by
  have F2 := F
  obtain ⟨oc, od, dV, kV, doc, pm, an, cdv, ct, osl, rfl, lk, hcd, hD, hK⟩ := F.ex
  obtain ⟨c', rfl⟩ := He.codeIn_ref hcd
  have e : He.codeOf K (c, some m) = c' := He.codeOf_eq (p := (c, some m)) lk rfl
  refine ⟨_, _, ps, cl, me, fn_of lk hcd S len fun A outer s H vs Q E hr h => ?_, F2.bindsN hb⟩
  rw [e] at hbody
  obtain ⟨t, h1, h2⟩ := hbody A outer s H vs Q E hr h
  exact ⟨t, h1.nox, h2⟩
def spWholeN (K : PySem.W.Frag) : Sp := fun vs H Q _ => ∃ net nm wn l u lv, ∃ wd hg np dp : Nat, ∃ e : Nt, vs = [.ref net, .str nm, .ref wn] ∧ NetAt K H net e np dp ∧ OkNt np dp lv e ∧ (∀ nm, lv nm ≤ 2) ∧ nm ∈ nms e ∧ H wn = some (.tup [.int l, .int u, .int wd, .int hg]) ∧
  -1000 ≤ l ∧ l ≤ 1000 ∧ -1000 ≤ u ∧ u ≤ 1000 ∧ 1 ≤ wd ∧ wd ≤ 48 ∧ 1 ≤ hg ∧ hg ≤ 48 ∧ 1 ≤ np ∧ np ≤ 4 ∧ 1 ≤ dp ∧ dp ≤ 65535 ∧ TabsN (Tb K) H ∧ ∀ H' a, ExtN H H' → TabsN (Tb K) H' → PicAt K H' a ⟨planesOf (ev e nm) l u wd hg np, l, u, dp⟩ → Q (.ref a) H'
theorem sc_Net_whole : FnScope ["self", "name", "window", "many", "depth", "tell", "memo", "shapes", "stages"] ["self", "name", "window"] (defScope sNet_whole) := ⟨rfl, rfl, rfl, by decide +kernel, rfl, by decide +kernel, by decide +kernel⟩
theorem ok_whole (T : Fx K mg w) (TBn : TabB base mg (He.cT K ("numbers_at", none)).1 (He.cT K ("numbers_at", none)).2) (TB : TabB base mg (He.cT K ("Net", some "whole")).1 (He.cT K ("Net", some "whole")).2) : Met P w K mg base 21 (He.ga K "Net") "whole" (spWholeN K) := by
  have c_must_be_there : Cal P w K mg base 1 "must_be_there" spThere [] := ok_must_be_there T
  have c_must_be_window : Cal P w K mg base 4 "must_be_window" spMbw [] := ok_must_be_window T
  have c_num := ok_num (P := P) T TBn
  have c_planes_by : Cal P w K mg base (18 + 1 + 1) "planes_by" (spPlanesBy P w K mg base (18 + 1)) [] := ok_planes_by T
  have c_Picture := mk_picture (P := P) (base := base) T
  obtain ⟨fd, F⟩ := T.dNet_whole
  refine met_ofC T.cl_Net T.me_whole F sc_Net_whole (fun _ _ _ _ _ _ us hl => match us, hl with | [_, _, _], _ => rfl) (fun vs H Q E h => ?_) (fun A outer s H vs Q E hr h => ?_)
  · obtain ⟨net, nm, wn, l, u, lv, wd, hg, np, dp, e, rfl, _⟩ := h
    rfl
  · have hu := hu_of hr
    refine ⟨_, (pss_cons (ps_expr (pe_c c_must_be_there hr (by omega) rfl (pa_cons (pe_fld (pv 0) rfl) (pa_cons (pv 1) pa_nil))))
      (pss_cons (ps_expr (pe_c c_must_be_window hr (by omega) rfl (pa_cons (pv 2) pa_nil)))
      (pss_cons (ps_asg (pe_dget hu (pe_fld (pv 0) rfl) (pv 1) (fun _ _ => rfl)) (pg_tupK (K := K) (n := 2) rfl rfl (pgs_cons (pg_name (i := 3) sc_Net_whole.nd rfl (Or.inl rfl)) (pgs_cons (pg_name (i := 4) sc_Net_whole.nd rfl (Or.inl rfl)) pgs_nil))))
      (pss_cons (ps_asg (pe_tup (pa_cons (pe_fld (pv 0) rfl) (pa_cons (pe_fld (pv 0) rfl) (pa_cons pe_dnewT pa_nil)))) (pg_tupK (K := K) (n := 3) rfl rfl (pgs_cons (pg_name (i := 8) sc_Net_whole.nd rfl (Or.inr rfl)) (pgs_cons (pg_name (i := 7) sc_Net_whole.nd rfl (Or.inr rfl)) (pgs_cons (pg_name (i := 6) sc_Net_whole.nd rfl (Or.inr rfl)) pgs_nil)))))
      (pss_cons (NdefX.ps_ndefMS (st := sNet_whole_tell) (T := Tb K) (nm := nmF) (i := 5) rfl TB rfl tb_second (by kernel_rfl) tb_nm tell_free rfl rfl rfl sc_Net_whole.nd rfl (Or.inl rfl) (Or.inl rfl))
      (pss_one (ps_ret (pe_mkN c_Picture hr (by omega) rfl (pa_cons (pe_cR c_planes_by hr (by omega) rfl (fun ok => Caps.made (scope := C8.fnScope sNet_whole_tell) (fr := tellFr) (js := [6, 1, 7, 8]) ok tell_free tell_fr rfl) (fun _ => rfl) (pa_cons (pv 2) (pa_cons (pv 3) (pa_cons (pv 5) pa_nil)))) pa_nil) (pk_cons (pe_ix (ix_tupK (K := K) rfl) (pv 2) pe_int (fun _ _ => rfl)) (pk_cons (pe_ix (ix_tupK (K := K) rfl) (pv 2) pe_int (fun _ _ => rfl)) (pk_cons (pv 4) pk_nil))))))))))), ?_⟩
    obtain ⟨net, nm, wn, l, u, lv, wd, hg, np, dp, e, rfl, ⟨dx, sd, hd, hnet, hsd, hhd⟩, O, h2, hnm, hwn, l1, l2, u1, u2, w1, w2, h1, h3, n1, n2, d1, d2, hT, q⟩ := h
    obtain ⟨kvs, ed, pr⟩ := id hsd
    obtain ⟨kv2, ehd, hk⟩ := id hhd
    refine ⟨_, rfl, _, _, _, _, _, rfl, (hnet), T.cl_Net, T.na_stages, rfl, _, rfl, sd, nm, kvs, rfl, ed, ent_some pr hnm, ?_⟩
    refine ⟨_, rfl, wn, l, u, wd, hg, rfl, hwn, l1, l2, u1, u2, by omega, by omega, by omega, by omega, ?_⟩
    obtain ⟨t0, et0, ht0⟩ := hk nm hnm
    have hget : DGet H hd (.str nm) (some (.ref t0)) := by
      rw [← et0]
      exact DGet.k (k := Sum.inr nm) ehd
    refine ⟨_, rfl, _, _, _, _, _, rfl, (hnet), T.cl_Net, T.na_shapes, rfl, _, rfl, hd, _, rfl, hget, _, _, rfl, SqT.of (ht0), rfl, _, _, rfl, _, _, rfl, rfl, ?_⟩
    refine ⟨_, rfl, _, _, _, _, _, rfl, (hnet), T.cl_Net, T.na_stages, rfl, _, rfl, _, _, _, _, _, rfl, (hnet), T.cl_Net, T.na_shapes, rfl, fun m hm => ?_⟩
    refine ⟨(by rw [sizeLine_eq]; exact Nat.le_of_ble_eq_true rfl), fun tp htp => ?_⟩
    refine ⟨_, _, rfl, SqT.of upd_same, rfl, _, _, rfl, _, _, rfl, _, _, rfl, rfl, ?_⟩
    have s1 : Same H (upd (upd H m (.dT [])) tp (.tup [.ref sd, .ref hd, .ref m])) := (Same.new hm).trans (Same.new htp)
    have em1 : (upd (upd H m (.dT [])) tp (.tup [.ref sd, .ref hd, .ref m])) m = some (.dT []) := (upd_ne (ne_of_none upd_same htp)).trans upd_same
    generalize upd (upd H m (.dT [])) tp (.tup [.ref sd, .ref hd, .ref m]) = H1 at s1 em1 ⊢
    refine ⟨tabsN_same hT s1, fun f c' G2 eN nn hT2 hf1 ef ec => ?_⟩
    have EX : ExtN H G2 := (ExtN.of s1).trans eN
    have kp2 : Kp K H G2 := Kp.ext EX
    have em2 : G2 m = some (.dT []) := eN _ _ em1 fun ps z => by cases z
    refine ⟨_, rfl, _, rfl, _, rfl, fun cs C free => ?_⟩
    have sW : Same G2 (withC G2 cs) := fun b o z => by
      cases qc : cs b with
      | none => rw [withC_out qc]; exact z
      | some v => rw [free b v qc] at z; cases z
    have cOut : ∀ b o, G2 b = some o → cs b = none := fun b o z => by
      cases qc : cs b with
      | none => rfl
      | some v => rw [free b v qc] at z; cases z
    have kp3 : Kp K H (withC G2 cs) := kp2.trans (Kp.of sW)
    have hwn2 : G2 wn = some (.tup [.int l, .int u, .int wd, .int hg]) := kp2.tups _ _ hwn
    have room : 0 + np * (hg * (wd * 651)) ≤ 16000000 := by
      have a1 : wd * 651 ≤ 48 * 651 := Nat.mul_le_mul_right _ w2
      have a2 : hg * (wd * 651) ≤ 48 * (48 * 651) := Nat.mul_le_mul h3 a1
      have a3 : np * (hg * (wd * 651)) ≤ 4 * (48 * (48 * 651)) := Nat.mul_le_mul n2 a2
      omega
    refine ⟨wn, f, m, JT K e np dp f c' sd hd m _ cs, ev e nm, l, u, 651, 16000000, np, wd, hg, 0, rfl, sW _ _ hwn2, tell_ok T c_num O h2 C (cOut _ _ ef) (cOut _ _ ec) hnm (h2 nm),
      ⟨sW _ _ ef, sW _ _ ec, fun c o z => withC_in z, ?_, ⟨[], sW _ _ em2, Nat.le_refl _, fun nm x y p v hv => by cases hv⟩, hsd.mono kp3, hhd.mono kp3⟩, by omega, by omega, by omega, by omega, n2, w2, h3, room, fun H3 a l3 j3 pl3 => ⟨j3.ce, ?_⟩⟩
    · rw [less_with free]
      exact hT2
    · have lk5 : ∀ b o, H b = some o → (∀ ps, o ≠ .tbl ps) → lessC H3 cs b = some o := fun b o eb nt => by
        have z := EX _ _ eb nt
        rw [lessC_out (cOut _ _ z)]
        exact l3 b o (fun y => by rw [y, hm] at eb; cases eb) (sW _ _ z) nt
      have hwn3 : lessC H3 cs wn = some (.tup [.int l, .int u, .int wd, .int hg]) := lk5 _ _ hwn fun ps z => by cases z
      have pl4 : PlanesAt (lessC H3 cs) a (planesOf (ev e nm) l u wd hg np) := PlanesAt.mono pl3 (kp_less (K := K) j3.ce).tups
      have tb4 := j3.tb
      generalize lessC H3 cs = H4 at lk5 hwn3 pl4 tb4 ⊢
      refine ⟨_, rfl, _, _, _, _, rfl, rfl, SqT.of (hwn3), atI_nat (j := 0) rfl, _, rfl, _, _, _, _, rfl, rfl, SqT.of (hwn3), atI_nat (j := 1) rfl, _, rfl, rfl, rfl, fun x dx0 hx hdx ne => ?_⟩
      have s5 : Same H4 (upd (upd H4 dx0 (.own x)) x (.ins (He.ga K "Picture") dx0 [])) := fun b o eb => by
        rw [upd_ne (ne_of_none eb hx), upd_ne (ne_of_none eb hdx)]
        exact eb
      refine ⟨x, dx0, a, np, wd, hg, ⟨planesOf (ev e nm) l u wd hg np, l, u, dp⟩, rfl, upd_same, PlanesAt.mono pl4 (TupS.of s5), ⟨planesOf_ok O h2 hnm n1 n2 w1 w2 h1 h3, l1, l2, u1, u2, by simp; omega, by simp; omega⟩, fun H5 fr5 ex => ⟨rfl, ?_⟩⟩
      have s6 : Same H4 H5 := fun b o eb => fr5 b o (ne_of_none eb hx) (s5 _ _ eb)
      refine q H5 x (fun b o eb nt => s6 _ _ (lk5 b o eb nt)) (tabsN_same tb4 s6) ⟨dx0, a, ex, PlanesAt.mono pl4 (TupS.of s6)⟩
end
end K22
end
section
/-! ### the law's own defs: what is drawn -/
namespace K22
open PySem PySem.Spec PyProof.Rows L2 LamX NdefX
/-- the pen: some numbers, where it stands, what is left of a great one -/
structure PenAt (H : Hp) (pen cs : Addr) (n : Nat) : Prop where
  ex : ∃ (ms : List Int) (at_ rest : Int), H pen = some (.lst [.ref cs, .int at_, .int rest]) ∧ H cs = some (.lst (ms.map V.int)) ∧ ms.length ≤ 63 ∧ 0 ≤ at_ ∧ at_ ≤ n ∧ 0 ≤ rest
theorem PenAt.mono {H : Hp} {pen cs : Addr} {n n' : Nat} (h : PenAt H pen cs n) (le : n ≤ n') : PenAt H pen cs n' := by
  obtain ⟨ms, a, r, h1, h2, h3, h4, h5, h6⟩ := h.ex
  exact ⟨ms, a, r, h1, h2, h3, h4, by omega, h6⟩
theorem PenAt.same {H H' : Hp} {pen cs : Addr} {n : Nat} (h : PenAt H pen cs n) (s : Same H H') : PenAt H' pen cs n := by
  obtain ⟨ms, a, r, h1, h2, h3⟩ := h.ex
  exact ⟨ms, a, r, s _ _ h1, s _ _ h2, h3⟩
/-- all stays but the pen -/
def Xp (pen : Addr) (H H' : Hp) : Prop := ∀ b o, b ≠ pen → H b = some o → H' b = some o
theorem Xp.of {pen : Addr} {H H' : Hp} (s : Same H H') : Xp pen H H' := fun b o _ e => s b o e
theorem Xp.refl {pen : Addr} (H : Hp) : Xp pen H H := fun _ _ _ e => e
theorem Xp.trans {pen : Addr} {H H1 H2 : Hp} (a : Xp pen H H1) (b : Xp pen H1 H2) : Xp pen H H2 := fun c o n e => b c o n (a c o n e)
theorem Xp.new {pen D : Addr} {H H' : Hp} {o : HO} (a : Xp pen H H') (h : H D = none) : Xp pen H (upd H' D o) := fun c u n e => by
  rw [upd_ne (ne_of_none e h)]
  exact a c u n e
theorem PenAt.ne_tup {H : Hp} {pen cs b : Addr} {n : Nat} {zs : List V} (h : PenAt H pen cs n) (e : H b = some (.tup zs)) : b ≠ pen := by
  obtain ⟨ms, a, r, h1, _⟩ := h.ex
  exact ne_of e h1 (by intro z; cases z)
theorem Xp.tups {H H' : Hp} {pen cs : Addr} {n : Nat} (x : Xp pen H H') (h : PenAt H pen cs n) : TupS H H' := fun b zs e => x b _ (h.ne_tup e) e
theorem Xp.kp {K : PySem.W.Frag} {H H' : Hp} {pen cs : Addr} {n : Nat} (x : Xp pen H H') (h : PenAt H pen cs n) : Kp K H H' := fun b o e fz => by
  obtain ⟨ms, a, r, h1, _⟩ := h.ex
  exact x b o (ne_of e h1 fun z => by subst z; exact fz) e
section
variable {P : Program} {w : World} {K : PySem.W.Frag} {mg : Str → Option Value} {base : Heap}
theorem PenAt.ne_none {H : Hp} {pen cs b : Addr} {n : Nat} (h : PenAt H pen cs n) (e : H b = none) : b ≠ pen ∧ b ≠ cs := by
  obtain ⟨ms, a, r, h1, h2, _⟩ := h.ex
  exact ⟨fun z => (by rw [z, h1] at e; cases e), fun z => (by rw [z, h2] at e; cases e)⟩
/-- another list is written -/
theorem PenAt.put {H : Hp} {pen cs D : Addr} {n : Nat} {o : HO} (h : PenAt H pen cs n) (hp : D ≠ pen ∧ D ≠ cs) : PenAt (upd H D o) pen cs n := by
  obtain ⟨ms, a, r, h1, h2, h3⟩ := h.ex
  exact ⟨ms, a, r, (upd_ne hp.1.symm).trans h1, (upd_ne hp.2.symm).trans h2, h3⟩
/-! _law_pen -/
def spPen (K : PySem.W.Frag) : Sp := fun vs H Q _ => ∃ a, ∃ ns : List Int, vs = [.ref a] ∧ SqL K H a (ns.map V.int) ∧ ∀ H' pen cs, Same H H' → H pen = none → PenAt H' pen cs 0 → Q (.ref pen) H'
theorem sc_law_pen : FnScope ["_law_script"] ["_law_script"] (defScope s_law_pen) := ⟨rfl, rfl, rfl, by decide +kernel, rfl, by decide +kernel, by decide +kernel⟩
theorem ok_law_pen (T : Fx K mg w) : Cal P w K mg base 1 "_law_pen" (spPen K) [] := by
  refine cal_of T.d_law_pen sc_law_pen (fun _ _ _ _ _ _ us hl => match us, hl with | [_], _ => rfl) (fun vs H Q E h => ?_) (fun cdv A outer s H vs Q E hr h => ?_)
  · obtain ⟨a, ns, rfl, _⟩ := h
    rfl
  · refine ⟨_, (pss_one (ps_ret (pe_lst (pa_cons (pe_callTy call_list_of (by rfl) T.f_list (by decide +kernel) (pa_cons (pe_slice sl_list (pv 0) po_none (po_some pe_int)) pa_nil)) (pa_cons pe_int (pa_cons pe_int pa_nil)))))), ?_⟩
    obtain ⟨a, ns, rfl, ha, q⟩ := h
    refine ⟨_, rfl, 63, rfl, a, _, rfl, ha, fun l hl => ?_⟩
    refine ⟨l, _, rfl, Or.inl (SqL.of upd_same), fun l2 hl2 => ?_⟩
    refine ⟨(by rw [sizeLine_eq]; exact Nat.le_of_ble_eq_true rfl), fun pen hpen => ?_⟩
    have s2 : Same H (upd (upd H l (.lst (cutV (ns.map V.int) none (some 63)))) l2 (.lst (cutV (ns.map V.int) none (some 63)))) := (Same.new hl).trans (Same.new hl2)
    have s3 := s2.trans (Same.new (o := .lst [.ref l2, .int 0, .int 0]) hpen)
    refine q _ pen l2 s3 ?_ ⟨(ns.drop (HT.sIx (ns.map V.int).length 0 none)).take (HT.sIx (ns.map V.int).length (ns.map V.int).length (some 63) - HT.sIx (ns.map V.int).length 0 none), 0, 0, upd_same, ?_, ?_, by omega, by omega, by omega⟩
    · cases z : H pen with
      | none => rfl
      | some o => rw [s2 _ _ z] at hpen; cases hpen
    · rw [upd_ne (ne_of_none upd_same hpen), upd_same]
      unfold cutV
      rw [List.map_take, List.map_drop]
    · rw [List.length_take]
      have z : HT.sIx (ns.map V.int).length (ns.map V.int).length (some 63) ≤ 63 := by
        have e := HT.sIx_nat (ns.map V.int).length (ns.map V.int).length 63
        rw [show (some ((63 : Nat) : Int)) = some (63 : Int) from rfl] at e
        rw [e]
        exact Nat.min_le_left _ _
      omega
theorem pen_cs {H : Hp} {pen cs : Addr} {ms : List Int} {a r : V} (ep : H pen = some (.lst [.ref cs, a, r])) (ec : H cs = some (.lst (ms.map V.int))) : cs ≠ pen := by
  intro z
  subst z
  rw [ep] at ec
  cases ms with
  | nil => cases ec
  | cons x m => cases ec
theorem pen_put {H : Hp} {pen cs : Addr} {ms : List Int} {a r : V} {a' r' : Int} {n : Nat} (ep : H pen = some (.lst [.ref cs, a, r])) (ec : H cs = some (.lst (ms.map V.int))) (lm : ms.length ≤ 63) (h0 : 0 ≤ a') (h1 : a' ≤ n) (h2 : 0 ≤ r') : PenAt (upd H pen (.lst [.ref cs, .int a', .int r'])) pen cs n :=
  ⟨ms, a', r', upd_same, (upd_ne (pen_cs ep ec)).trans ec, lm, h0, h1, h2⟩
/-! _law_draw -/
def spDraw : Sp := fun vs H Q _ => ∃ pen cs n, ∃ many : Int, vs = [.ref pen, .int many] ∧ 1 ≤ many ∧ many ≤ 1000000 ∧ PenAt H pen cs n ∧ n ≤ 1000000 ∧ ∀ (i : Int) H', 0 ≤ i → i < many → Xp pen H H' → PenAt H' pen cs (n + 1) → Q (.int i) H'
theorem sc_law_draw : FnScope ["_law_pen_here", "_law_many", "_law_found", "_law_at", "_law_cell", "_law_number"] ["_law_pen_here", "_law_many"] (defScope s_law_draw) := ⟨rfl, rfl, rfl, by decide +kernel, rfl, by decide +kernel, by decide +kernel⟩
theorem ok_law_draw (T : Fx K mg w) : Cal P w K mg base 1 "_law_draw" spDraw [] := by
  refine cal_of T.d_law_draw sc_law_draw (fun _ _ _ _ _ _ us hl => match us, hl with | [_, _], _ => rfl) (fun vs H Q E h => ?_) (fun cdv A outer s H vs Q E hr h => ?_)
  · obtain ⟨pen, cs, n, many, rfl, _⟩ := h
    rfl
  · refine ⟨_, (pss_cons (ps_if (pt_cmpR op_gt (pe_ix (ix_listK (K := K) rfl) (pv 0) pe_int (fun _ _ => rfl)) pe_int (nomark _)) (pss_cons (ps_set (i := 2) sc_law_draw.nd rfl (Or.inl rfl) (pe_op op_mod (pe_ix (ix_listK (K := K) rfl) (pv 0) pe_int (fun _ _ => rfl)) (pv 1)))
      (pss_cons (ps_asg (pe_op op_fdiv (pe_ix (ix_listK (K := K) rfl) (pv 0) pe_int (fun _ _ => rfl)) (pv 1)) (pg_sub (pv 0) pe_int set_list))
      (pss_one (ps_ret (pv 2))))) pss_nil)
      (pss_cons (ps_set (i := 3) sc_law_draw.nd rfl (Or.inl rfl) (pe_ix (ix_listK (K := K) rfl) (pv 0) pe_int (fun _ _ => rfl)))
      (pss_cons (ps_asg (pe_op op_add (pv 3) pe_int) (pg_sub (pv 0) pe_int set_list))
      (pss_cons (ps_set (i := 4) sc_law_draw.nd rfl (Or.inl rfl) pe_int)
      (C8.pss_cut (ps_if (pt_cmpR op_gt (pe_callB (id := "len") (cr_lenK (K := K) rfl) (by rfl) T.f_len (by decide +kernel) (pa_cons (pe_ix (ix_listK (K := K) rfl) (pv 0) pe_int (fun _ _ => rfl)) pa_nil)) pe_int (nomark _)) (pss_one (ps_set (i := 4) sc_law_draw.nd rfl (Or.inl rfl) (pe_ix (ix_listK (K := K) rfl) (pe_ix (ix_listK (K := K) rfl) (pv 0) pe_int (fun _ _ => rfl)) (pe_op op_mod (pv 3) (pe_callB (id := "len") (cr_lenK (K := K) rfl) (by rfl) T.f_len (by decide +kernel) (pa_cons (pe_ix (ix_listK (K := K) rfl) (pv 0) pe_int (fun _ _ => rfl)) pa_nil))) (fun _ _ => rfl)))) pss_nil)
      (C8.pss_cut (ps_if (PW.pt (pw_and (pt_cmpR op_lt (pv 3) (pe_callB (id := "len") (cr_lenK (K := K) rfl) (by rfl) T.f_len (by decide +kernel) (pa_cons (pe_ix (ix_listK (K := K) rfl) (pv 0) pe_int (fun _ _ => rfl)) pa_nil)) (nomark _)) (pw_and1 (pt_cmpR op_ge (pv 4) (pe_op op_pow pe_int pe_int) (nomark _))))) (pss_cons (ps_asg (pe_op op_fdiv (pv 4) (pv 1)) (pg_sub (pv 0) pe_int set_list))
      (pss_one (ps_ret (pe_op op_mod (pv 4) (pv 1))))) pss_nil)
      (pss_cons (ps_set (i := 5) sc_law_draw.nd rfl (Or.inl rfl) (pe_op op_mod (pe_op op_mul (pe_op op_add (pe_op op_mod (pv 4) pe_int) pe_int) (pe_op op_add (pe_op op_add (pe_op op_mul (pv 3) (pv 3)) (pe_op op_mul pe_int (pv 3))) pe_int)) pe_int))
      (pss_cons (ps_set (i := 5) sc_law_draw.nd rfl (Or.inl rfl) (pe_op op_mod (pe_op op_mul (pe_op op_mod (pe_op op_add (pe_op op_pow (pv 5) pe_int) (pe_op op_mul pe_int (pv 3))) pe_int) pe_int) pe_int))
      (pss_cons (ps_if (pt_cmpR op_gt (pv 1) (pe_op op_pow pe_int pe_int) (nomark _)) (pss_one (ps_set (i := 5) sc_law_draw.nd rfl (Or.inl rfl) (pe_op op_add (pe_op op_mul (pv 5) pe_int) (pe_op op_mod (pe_op op_mul (pe_op op_mod (pv 5) pe_int) pe_int) pe_int)))) pss_nil)
      (pss_one (ps_ret (pe_op op_mod (pe_op op_fdiv (pv 5) pe_int) (pv 1))))))))))))), ?_⟩
    obtain ⟨pen, cs, n, many, rfl, m1, m2, hp, hn, q⟩ := h
    obtain ⟨ms, at_, rest, ep, ec, lm, a0, an, r0⟩ := hp.ex
    refine ⟨_, rfl, _, _, _, _, rfl, rfl, SqL.of (ep), atI_nat (j := 2) rfl, _, _, rfl, rfl, _, rfl, ?_⟩
    by_cases c1 : rest > 0
    · refine if_true c1 ?_
      refine ⟨_, rfl, _, _, _, _, rfl, rfl, SqL.of (ep), atI_nat (j := 2) rfl, _, rfl, _, _, rfl, rfl, by omega, ?_⟩
      refine ⟨_, rfl, _, _, _, _, rfl, rfl, SqL.of (ep), atI_nat (j := 2) rfl, _, rfl, _, _, rfl, rfl, ⟨by omega, by omega⟩, ?_⟩
      refine ⟨_, rfl, pen, _, 2, 2, rfl, rfl, ep, rfl, ?_⟩
      have e1 := Int.emod_nonneg rest (show many ≠ 0 by omega)
      have e2 := Int.emod_lt_of_pos rest (show 0 < many by omega)
      exact ⟨_, rfl, q _ _ e1 e2 (fun b o ne e => (upd_ne ne).trans e) (pen_put ep ec lm a0 (by omega) (Int.ediv_nonneg r0 (by omega)))⟩
    · refine if_false c1 ?_
      refine ⟨_, rfl, _, _, _, _, rfl, rfl, SqL.of (ep), atI_nat (j := 1) rfl, ?_⟩
      refine ⟨_, rfl, _, _, rfl, rfl, _, rfl, pen, _, 1, 1, rfl, rfl, ep, rfl, ?_⟩
      have ep1 : (upd H pen (.lst [.ref cs, .int (at_ + 1), .int rest])) pen = some (.lst [.ref cs, .int (at_ + 1), .int rest]) := upd_same
      have ec1 : (upd H pen (.lst [.ref cs, .int (at_ + 1), .int rest])) cs = some (.lst (ms.map V.int)) := (upd_ne (pen_cs ep ec)).trans ec
      have x1 : Xp pen H (upd H pen (.lst [.ref cs, .int (at_ + 1), .int rest])) := fun b o ne e => (upd_ne ne).trans e
      have p1 : PenAt (upd H pen (.lst [.ref cs, .int (at_ + 1), .int rest])) pen cs (n + 1) := pen_put ep ec lm (by omega) (by omega) r0
      show C8.tCut _ _ _ _ (upd H pen (.lst [.ref cs, .int (at_ + 1), .int rest]))
      generalize upd H pen (.lst [.ref cs, .int (at_ + 1), .int rest]) = H1 at ep1 ec1 x1 p1 ⊢
      refine ⟨fun σ' H' => H' = H1 ∧ ∃ cell : Int, σ' = [some (.ref pen), some (.int many), none, some (.int at_), some (.int cell), none], ?_, ?_⟩
      · refine ⟨_, rfl, _, _, _, _, rfl, rfl, SqL.of (ep1), atI_nat (j := 0) rfl, .ref _, _, rfl, Or.inl ⟨_, SqL.of (ec1), rfl⟩, _, _, rfl, rfl, _, rfl, ?_⟩
        by_cases c2 : (((ms.map V.int).length : Nat) : Int) > 0
        · refine if_true c2 ?_
          have pos : 0 < (((ms.map V.int).length : Nat) : Int) := c2
          obtain ⟨k, hk⟩ : ∃ k : Nat, at_ % (((ms.map V.int).length : Nat) : Int) = k := ⟨(at_ % (((ms.map V.int).length : Nat) : Int)).toNat, by have := Int.emod_nonneg at_ (show (((ms.map V.int).length : Nat) : Int) ≠ 0 by omega); omega⟩
          have lk : k < ms.length := by
            have := Int.emod_lt_of_pos at_ pos
            rw [hk, List.length_map] at this
            omega
          refine ⟨_, rfl, _, _, _, _, rfl, rfl, SqL.of (ep1), atI_nat (j := 0) rfl, _, rfl, _, rfl, _, _, _, _, rfl, rfl, SqL.of (ep1), atI_nat (j := 0) rfl, .ref _, _, rfl, Or.inl ⟨_, SqL.of (ec1), rfl⟩, _, _, rfl, rfl, pos, ?_⟩
          show rIxL K (.ref cs) (.int (at_ % (((ms.map V.int).length : Nat) : Int))) H1 _
          rw [hk]
          refine ⟨cs, _, _, V.int ms[k], rfl, rfl, SqL.of ec1, atI_nat (by rw [List.getElem?_map, List.getElem?_eq_getElem lk]; rfl), rfl, ms[k], rfl⟩
        · refine if_false c2 ?_
          exact ⟨rfl, 7, rfl⟩
      · rintro σ' H' ⟨rfl, cell, rfl⟩
        have m0 : many ≠ 0 := by omega
        have big : CPow 10 18 := ⟨by decide, by decide, by decide⟩
        refine ⟨fun σ' H2 => H2 = H' ∧ σ' = [some (.ref pen), some (.int many), none, some (.int at_), some (.int cell), none], ?_, ?_⟩
        · refine ⟨_, rfl, _, rfl, _, _, _, _, rfl, rfl, SqL.of (ep1), atI_nat (j := 0) rfl, .ref _, _, rfl, Or.inl ⟨_, SqL.of (ec1), rfl⟩, _, _, rfl, rfl, _, rfl, ?_⟩
          by_cases c3 : at_ < (((ms.map V.int).length : Nat) : Int)
          · refine if_true c3 ?_
            refine ⟨_, rfl, 10, 18, rfl, rfl, big, cell, _, rfl, rfl, _, rfl, ?_⟩
            by_cases c4 : (10 : Int) ^ (18 : Int).toNat ≤ cell
            · refine if_true c4 ?_
              have cp : 0 ≤ cell := Int.le_trans (by decide) c4
              refine ⟨_, rfl, _, rfl, _, _, rfl, rfl, ⟨by omega, by omega⟩, _, rfl, pen, _, 2, 2, rfl, rfl, ep1, rfl, ?_⟩
              refine ⟨_, rfl, _, rfl, _, _, rfl, rfl, by omega, ?_⟩
              exact q _ _ (Int.emod_nonneg _ m0) (Int.emod_lt_of_pos _ (by omega)) (x1.trans fun b o ne e => (upd_ne ne).trans e) (pen_put ep1 ec1 lm (by omega) (by omega) (Int.ediv_nonneg cp (by omega)))
            · exact if_false c4 ⟨rfl, rfl⟩
          · exact if_false c3 ⟨rfl, rfl⟩
        · rintro σ' H2 ⟨rfl, rfl⟩
          have b1 := Int.emod_nonneg cell (show (2147483629 : Int) ≠ 0 by decide)
          have b2 := Int.emod_lt_of_pos cell (show (0 : Int) < 2147483629 by decide)
          refine ⟨_, rfl, _, _, rfl, rfl, (by show (0 : Int) < _; decide), _, _, rfl, rfl, _, rfl, _, rfl, _, _, rfl, rfl, Or.inl ⟨by omega, by omega⟩, _, rfl, _, _, rfl, rfl, Or.inl ⟨by decide, by decide⟩, _, _, rfl, rfl, _, _, rfl, rfl, _, _, rfl, rfl, Or.inl ⟨by omega, by omega⟩, _, _, rfl, rfl, (by show (0 : Int) < _; decide), ?_⟩
          have d1 := Int.emod_nonneg ((cell % 2147483629 + 11) * (at_ * at_ + 5 * at_ + 3)) (show (2147483647 : Int) ≠ 0 by decide)
          have d2 := Int.emod_lt_of_pos ((cell % 2147483629 + 11) * (at_ * at_ + 5 * at_ + 3)) (show (0 : Int) < 2147483647 by decide)
          show gName 5 (V.int ((cell % 2147483629 + 11) * (at_ * at_ + 5 * at_ + 3) % 2147483647)) _ H2 _
          generalize (cell % 2147483629 + 11) * (at_ * at_ + 5 * at_ + 3) % 2147483647 = z at d1 d2 ⊢
          have six : CPow 10 6 := ⟨by decide, by decide, by decide⟩
          refine ⟨_, rfl, z, 3, rfl, rfl, ⟨by decide, by decide, by omega⟩, _, rfl, _, _, rfl, rfl, Or.inl ⟨by decide, by decide⟩, _, _, rfl, rfl, _, _, rfl, rfl, (by show (0 : Int) < _; decide), _, _, rfl, rfl, Or.inr ⟨by decide, by decide⟩, _, _, rfl, rfl, (by show (0 : Int) < _; decide), ?_⟩
          refine ⟨_, rfl, 10, 6, rfl, rfl, six, _, _, rfl, rfl, _, rfl, if_false (fun c5 => ?_) ?_⟩
          · have c6 : (10 : Int) ^ (6 : Int).toNat = 1000000 := by decide
            rw [c6] at c5
            omega
          refine ⟨_, rfl, _, _, rfl, rfl, ⟨by decide, by decide⟩, _, rfl, _, _, rfl, rfl, by omega, ?_⟩
          exact q _ _ (Int.emod_nonneg _ m0) (Int.emod_lt_of_pos _ (by omega)) x1 p1
end
end K22
end
section
/-! ### pictures, borders, windows, forms, tables, drawn -/
namespace K22
open PySem PySem.Spec PyProof.Rows L2 LamX NdefX
section
variable {P : Program} {w : World} {K : PySem.W.Frag} {mg : Str → Option Value} {base : Heap}
def spLP : Sp := fun vs H Q _ => ∃ pen cs, ∃ n np bd tl dp : Nat, vs = [.ref pen, .int np, .int bd, .int tl, .int dp] ∧ 1 ≤ np ∧ np ≤ 4 ∧ 1 ≤ bd ∧ bd ≤ 6 ∧ 1 ≤ tl ∧ tl ≤ 6 ∧ 1 ≤ dp ∧ dp ≤ 1000 ∧ PenAt H pen cs n ∧ n ≤ 900000 ∧
  ∀ H' a pl, Xp pen H H' → PenAt H' pen cs (n + 1000) → PlanesAt H' a pl → OkPl np bd tl (dp : Int) pl → Q (.ref a) H'
/-- a row so far -/
def RowIn (dp : Nat) (zs : List Int) : Prop := ∀ z ∈ zs, 0 ≤ z ∧ z ≤ dp
theorem sc_law_planes : FnScope ["_law_pen_here", "_law_planes_here", "_law_broad", "_law_tall", "_law_deep", "_law_found", "_law_k", "_law_rows", "_law_j", "_law_row", "_law_i"] ["_law_pen_here", "_law_planes_here", "_law_broad", "_law_tall", "_law_deep"] (defScope s_law_planes) := ⟨rfl, rfl, rfl, by decide +kernel, rfl, by decide +kernel, by decide +kernel⟩
theorem ok_law_planes (T : Fx K mg w) : Cal P w K mg base 2 "_law_planes" spLP [] := by
  have c_law_draw : Cal P w K mg base 1 "_law_draw" spDraw [] := ok_law_draw T
  refine cal_of T.d_law_planes sc_law_planes (fun _ _ _ _ _ _ us hl => match us, hl with | [_, _, _, _, _], _ => rfl) (fun vs H Q E h => ?_) (fun cdv A outer s H vs Q E hr h => ?_)
  · obtain ⟨pen, cs, n, np, bd, tl, dp, rfl, _⟩ := h
    rfl
  · refine ⟨_, (pss_cons (ps_set (i := 5) sc_law_planes.nd rfl (Or.inl rfl) (pe_lst pa_nil))
      (pss_cons (ps_for PassesOwn.never rfl (pi_range1 (by rfl) T.f_range (pa_cons (pv 1) pa_nil)) (pg_name (i := 6) sc_law_planes.nd rfl (Or.inl rfl)) (pss_cons (ps_set (i := 7) sc_law_planes.nd rfl (Or.inl rfl) (pe_lst pa_nil))
      (pss_cons (ps_for PassesOwn.never rfl (pi_range1 (by rfl) T.f_range (pa_cons (pv 3) pa_nil)) (pg_name (i := 8) sc_law_planes.nd rfl (Or.inl rfl)) (pss_cons (ps_set (i := 9) sc_law_planes.nd rfl (Or.inl rfl) (pe_lst pa_nil))
      (pss_cons (ps_for PassesOwn.never rfl (pi_range1 (by rfl) T.f_range (pa_cons (pv 2) pa_nil)) (pg_name (i := 10) sc_law_planes.nd rfl (Or.inl rfl)) (pss_one (ps_expr (pe_bm PySem.F.plainAttrs_list PySem.F.slot_list_append PySem.F.type_list_append mt_append (pv 9) (pa_cons (pe_ix (ix_listK (K := K) rfl) (pe_lst (pa_cons pe_int (pa_cons (pv 4) (pa_cons (pe_c c_law_draw hr (by omega) rfl (pa_cons (pv 0) (pa_cons (pe_op op_add (pv 4) pe_int) pa_nil))) (pa_cons (pe_c c_law_draw hr (by omega) rfl (pa_cons (pv 0) (pa_cons (pe_op op_add (pv 4) pe_int) pa_nil))) pa_nil))))) (pe_c c_law_draw hr (by omega) rfl (pa_cons (pv 0) (pa_cons pe_int pa_nil))) (fun _ _ => rfl)) pa_nil)))))
      (pss_one (ps_expr (pe_bm PySem.F.plainAttrs_list PySem.F.slot_list_append PySem.F.type_list_append mt_append (pv 7) (pa_cons (pe_callTy (call_tupleK (K := K) rfl) (by rfl) T.f_tuple (by decide +kernel) (pa_cons (pv 9) pa_nil)) pa_nil)))))))
      (pss_one (ps_expr (pe_bm PySem.F.plainAttrs_list PySem.F.slot_list_append PySem.F.type_list_append mt_append (pv 5) (pa_cons (pe_callTy (call_tupleK (K := K) rfl) (by rfl) T.f_tuple (by decide +kernel) (pa_cons (pv 7) pa_nil)) pa_nil)))))))
      (pss_one (ps_ret (pe_callTy (call_tupleK (K := K) rfl) (by rfl) T.f_tuple (by decide +kernel) (pa_cons (pv 5) pa_nil)))))), ?_⟩
    obtain ⟨pen, cs, n, np, bd, tl, dp, rfl, n1, n2, b1, b2, t1, t2, d1, d2, hp, hn, q⟩ := h
    refine ⟨(by rw [sizeLine_eq]; exact Nat.le_of_ble_eq_true rfl), fun F hF => ?_⟩
    have F1 := hp.ne_none hF
    refine ⟨_, rfl, np, rfl, by omega, by omega, ?_⟩
    rw [show ((np : Int)).toNat = np from by omega]
    refine for_any (n := np) (fun i v => v = .int (0 + (i : Int))) (fun i σ G => ∃ (as : List Addr) (pl : List (List (List Int))) (o6 o7 o8 o9 o10 : Option V), σ = [some (.ref pen), some (.int np), some (.int bd), some (.int tl), some (.int dp), some (.ref F), o6, o7, o8, o9, o10] ∧ Xp pen H G ∧ PenAt G pen cs (n + i * 108) ∧ G F = some (.lst (as.map V.ref)) ∧ as.length = i ∧ pl.length = i ∧
        (∀ (i2 : Nat) p, pl[i2]? = some p → ∃ b, as[i2]? = some b ∧ PlaneAt G b p) ∧ (∀ p ∈ pl, p.length = tl) ∧ (∀ p ∈ pl, ∀ r ∈ p, r.length = bd) ∧ ∀ p ∈ pl, ∀ r ∈ p, RowIn dp r)
      ⟨[], [], none, none, none, none, none, rfl, Xp.of (Same.new hF), by rw [Nat.zero_mul]; exact hp.same (Same.new hF), upd_same, rfl, rfl, fun i2 p h => (by simp at h), fun p h => (by cases h), fun p h => (by cases h), fun p h => (by cases h)⟩ (fun i σ G hi _ => it_rng hi) (fun i v σ G N li ev j k => ?_) fun σ G j => ?_
    · obtain ⟨as, pl, o6, o7, o8, o9, o10, rfl, x, pn, gF, la, lp, hpl, h1, h2, h3⟩ := j
      subst ev
      refine ⟨(by rw [sizeLine_eq]; exact Nat.le_of_ble_eq_true rfl), fun R hR => ?_⟩
      have R1 := pn.ne_none hR
      have RF : R ≠ F := fun z => by rw [z, gF] at hR; cases hR
      refine ⟨_, rfl, tl, rfl, by omega, by omega, ?_⟩
      rw [show ((tl : Int)).toNat = tl from by omega]
      have room : n + i * 108 ≤ 900432 := by
        have : i * 108 ≤ 4 * 108 := Nat.mul_le_mul_right _ (by omega)
        omega
      have bk : n + (i + 1) * 108 = n + i * 108 + 108 := by rw [Nat.succ_mul]; omega
      rw [bk] at k
      generalize n + i * 108 = n0 at pn room k
      refine for_any (n := tl) (fun j v => v = .int (0 + (j : Int))) (fun j σ G1 => ∃ (rs : List Addr) (rws : List (List Int)) (o8 o9 o10 : Option V), σ = [some (.ref pen), some (.int np), some (.int bd), some (.int tl), some (.int dp), some (.ref F), some (.int (0 + (i : Int))), some (.ref R), o8, o9, o10] ∧ Xp pen G G1 ∧ PenAt G1 pen cs (n0 + j * 18) ∧ G1 R = some (.lst (rs.map V.ref)) ∧ rs.length = j ∧ rws.length = j ∧
          (∀ (i2 : Nat) r, rws[i2]? = some r → ∃ b, rs[i2]? = some b ∧ RowAt G1 b r) ∧ (∀ r ∈ rws, r.length = bd) ∧ ∀ r ∈ rws, RowIn dp r)
        ⟨[], [], _, _, _, rfl, Xp.of (Same.new hR), by rw [Nat.zero_mul]; exact pn.same (Same.new hR), upd_same, rfl, rfl, fun i2 p h => (by simp at h), fun p h => (by cases h), fun p h => (by cases h)⟩ (fun j σ G1 hj _ => it_rng hj) (fun j v σ G1 N1 lj ev jj k1 => ?_) fun σ G1 jj => ?_
      · obtain ⟨rs, rws, o8, o9, o10, rfl, x1, pn1, gR, lr, lrw, hrw, g1, g2⟩ := jj
        subst ev
        refine ⟨(by rw [sizeLine_eq]; exact Nat.le_of_ble_eq_true rfl), fun W hW => ?_⟩
        have W1 := pn1.ne_none hW
        have WR : W ≠ R := fun z => by rw [z, gR] at hW; cases hW
        refine ⟨_, rfl, bd, rfl, by omega, by omega, ?_⟩
        rw [show ((bd : Int)).toNat = bd from by omega]
        have room1 : n0 + j * 18 ≤ 900540 := by
          have : j * 18 ≤ 6 * 18 := Nat.mul_le_mul_right _ (by omega)
          omega
        have bk1 : n0 + (j + 1) * 18 = n0 + j * 18 + 18 := by rw [Nat.succ_mul]; omega
        rw [bk1] at k1
        generalize n0 + j * 18 = n00 at pn1 room1 k1
        refine for_any (n := bd) (fun i3 v => v = .int (0 + (i3 : Int))) (fun i3 σ G2 => ∃ (zs : List Int) (o10 : Option V), σ = [some (.ref pen), some (.int np), some (.int bd), some (.int tl), some (.int dp), some (.ref F), some (.int (0 + (i : Int))), some (.ref R), some (.int (0 + (j : Int))), some (.ref W), o10] ∧ Xp pen G1 G2 ∧ PenAt G2 pen cs (n00 + i3 * 3) ∧ G2 W = some (.lst (zs.map V.int)) ∧ zs.length = i3 ∧ RowIn dp zs)
          ⟨[], _, rfl, Xp.of (Same.new hW), by rw [Nat.zero_mul]; exact pn1.same (Same.new hW), upd_same, rfl, fun z h => (by cases h)⟩ (fun i3 σ G2 hj _ => it_rng hj) (fun i3 v σ G2 N2 l3 ev j3 k2 => ?_) fun σ G2 j3 => ?_
        · obtain ⟨zs, o10, rfl, x2, pn2, gW, lz, hz⟩ := j3
          subst ev
          have room2 : n00 + i3 * 3 ≤ 900560 := by omega
          have bk2 : n00 + (i3 + 1) * 3 = n00 + i3 * 3 + 3 := by rw [Nat.succ_mul]; omega
          rw [bk2] at k2
          generalize n00 + i3 * 3 = n3 at pn2 room2 k2
          refine ⟨_, rfl, Or.inl ⟨rfl, _, SqL.of gW⟩, ?_⟩
          refine ⟨_, rfl, _, rfl, _, rfl, _, _, rfl, rfl, pen, cs, n3, _, rfl, by omega, by omega, pn2, by omega, fun z1 H1 z10 z11 y1 q1 => ?_⟩
          refine ⟨_, rfl, _, rfl, _, _, rfl, rfl, pen, cs, n3 + 1, _, rfl, by omega, by omega, q1, by omega, fun z2 H2 z20 z21 y2 q2 => ?_⟩
          refine ⟨(by rw [sizeLine_eq]; exact Nat.le_of_ble_eq_true rfl), fun L hL => ?_⟩
          have q2L := q2.same (Same.new (o := .lst [.int 0, .int dp, .int z1, .int z2]) hL)
          refine ⟨_, rfl, pen, cs, n3 + 2, 4, rfl, by omega, by omega, q2L, by omega, fun z3 H3 z30 z31 y3 q3 => ?_⟩
          have L1 := q2.ne_none hL
          have gL : H3 L = some (.lst [.int 0, .int dp, .int z1, .int z2]) := y3 _ _ L1.1 upd_same
          obtain ⟨m, rfl⟩ : ∃ m : Nat, z3 = m := ⟨z3.toNat, by omega⟩
          obtain ⟨zz, ez, zr⟩ : ∃ zz : Int, ([V.int 0, .int dp, .int z1, .int z2] : List V)[m]? = some (.int zz) ∧ 0 ≤ zz ∧ zz ≤ dp := by
            match m, z31 with
            | 0, _ => exact ⟨0, rfl, by omega, by omega⟩
            | 1, _ => exact ⟨dp, rfl, by omega, by omega⟩
            | 2, _ => exact ⟨z1, rfl, by omega, by omega⟩
            | 3, _ => exact ⟨z2, rfl, by omega, by omega⟩
            | m + 4, h => omega
          have xx : Xp pen G2 H3 := ((y1.trans y2).new (o := .lst [.int 0, .int dp, .int z1, .int z2]) (by
            cases e : G2 L with
            | none => rfl
            | some o => rw [y2 _ _ L1.1 (y1 _ _ L1.1 e)] at hL; cases hL)).trans y3
          have gW3 := xx _ _ W1.1 gW
          refine ⟨L, _, _, .int zz, rfl, rfl, SqL.of gL, atI_nat ez, ?_⟩
          refine ⟨W, _, _, rfl, rfl, gW3, by rw [sizeLine_eq, List.length_map]; omega, ?_⟩
          refine k2 _ _ ⟨zs ++ [zz], _, rfl, (x2.trans xx).new hW, q3.put W1, by rw [upd_same, List.map_append]; rfl, by simp [lz], fun z h => ?_⟩
          rcases List.mem_append.mp h with h | h
          · exact hz z h
          · rw [List.mem_singleton.mp h]; exact zr
        · obtain ⟨zs, o10, rfl, x2, pn2, gW, lz, hz⟩ := j3
          have gR2 := x2 _ _ R1.1 gR
          refine ⟨_, rfl, Or.inl ⟨rfl, _, SqL.of gR2⟩, ?_⟩
          refine ⟨_, rfl, W, _, rfl, Or.inl ⟨SqL.of gW, fun t ht => ?_⟩⟩
          have s5 := Same.new (o := .tup (zs.map V.int)) ht
          have gR3 := s5 _ _ gR2
          refine ⟨R, _, _, rfl, rfl, gR3, by rw [sizeLine_eq, List.length_map]; omega, ?_⟩
          have ts : TupS (upd G2 t (.tup (zs.map V.int))) (upd (upd G2 t (.tup (zs.map V.int))) R (.lst (rs.map V.ref ++ [V.ref t]))) := fun b ys e => (upd_ne (ne_of e gR3 (by intro y; cases y))).trans e
          refine k1 _ _ ⟨rs ++ [t], rws ++ [zs], _, _, _, rfl, (x1.trans (x2.trans (Xp.of s5))).new hR, ((pn2.mono (by omega)).same s5).put R1, by rw [upd_same, List.map_append]; rfl, by simp [lr], by simp [lrw], fun i2 r hr2 => ?_, fun r hr2 => ?_, fun r hr2 => ?_⟩
          · by_cases c1 : i2 < rws.length
            · rw [List.getElem?_append_left c1] at hr2
              obtain ⟨b, e1, e2⟩ := hrw i2 r hr2
              exact ⟨b, by rw [List.getElem?_append_left (by omega)]; exact e1, ts _ _ (s5 _ _ (x2.tups pn1 _ _ e2))⟩
            · have e0 : i2 = rws.length := by
                have := (List.getElem?_eq_some_iff.mp hr2).1
                simp at this
                omega
              subst e0
              rw [List.getElem?_append_right (Nat.le_refl _)] at hr2
              simp at hr2
              subst hr2
              exact ⟨t, by rw [List.getElem?_append_right (by omega)]; simp [lr, lrw], ts _ _ upd_same⟩
          · rcases List.mem_append.mp hr2 with h | h
            · exact g1 r h
            · rw [List.mem_singleton.mp h]; exact lz
          · rcases List.mem_append.mp hr2 with h | h
            · exact g2 r h
            · rw [List.mem_singleton.mp h]; exact hz
      · obtain ⟨rs, rws, o8, o9, o10, rfl, x1, pn1, gR, lr, lrw, hrw, g1, g2⟩ := jj
        have gF2 := x1 _ _ F1.1 gF
        refine ⟨_, rfl, Or.inl ⟨rfl, _, SqL.of gF2⟩, ?_⟩
        refine ⟨_, rfl, R, _, rfl, Or.inl ⟨SqL.of gR, fun t ht => ?_⟩⟩
        have s5 := Same.new (o := .tup (rs.map V.ref)) ht
        have gF3 := s5 _ _ gF2
        refine ⟨F, _, _, rfl, rfl, gF3, by rw [sizeLine_eq, List.length_map]; omega, ?_⟩
        have ts : TupS (upd G1 t (.tup (rs.map V.ref))) (upd (upd G1 t (.tup (rs.map V.ref))) F (.lst (as.map V.ref ++ [V.ref t]))) := fun b ys e => (upd_ne (ne_of e gF3 (by intro y; cases y))).trans e
        refine k _ _ ⟨as ++ [t], pl ++ [rws], _, _, _, _, _, rfl, (x.trans (x1.trans (Xp.of s5))).new hF, ((pn1.mono (by omega)).same s5).put F1, by rw [upd_same, List.map_append]; rfl, by simp [la], by simp [lp], fun i2 r hr2 => ?_, fun r hr2 => ?_, fun r hr2 => ?_, fun r hr2 => ?_⟩
        · by_cases c1 : i2 < pl.length
          · rw [List.getElem?_append_left c1] at hr2
            obtain ⟨b, e1, e2⟩ := hpl i2 r hr2
            exact ⟨b, by rw [List.getElem?_append_left (by omega)]; exact e1, PlaneAt.mono e2 fun b zs z => ts _ _ (s5 _ _ (x1.tups pn _ _ z))⟩
          · have e0 : i2 = pl.length := by
              have := (List.getElem?_eq_some_iff.mp hr2).1
              simp at this
              omega
            subst e0
            rw [List.getElem?_append_right (Nat.le_refl _)] at hr2
            simp at hr2
            subst hr2
            refine ⟨t, by rw [List.getElem?_append_right (by omega)]; simp [la, lp], rs, ts _ _ upd_same, by omega, fun i3 r h3 => ?_⟩
            obtain ⟨b, e1, e2⟩ := hrw i3 r h3
            exact ⟨b, e1, ts _ _ (s5 _ _ e2)⟩
        · rcases List.mem_append.mp hr2 with h | h
          · exact h1 r h
          · rw [List.mem_singleton.mp h]; exact lrw
        · rcases List.mem_append.mp hr2 with h | h
          · exact h2 r h
          · rw [List.mem_singleton.mp h]; exact g1
        · rcases List.mem_append.mp hr2 with h | h
          · exact h3 r h
          · rw [List.mem_singleton.mp h]; exact g2
    · obtain ⟨as, pl, o6, o7, o8, o9, o10, rfl, x, pn, gF, la, lp, hpl, h1, h2, h3⟩ := j
      refine ⟨_, rfl, F, _, rfl, Or.inl ⟨SqL.of gF, fun t ht => ?_⟩⟩
      have s5 := Same.new (o := .tup (as.map V.ref)) ht
      refine q _ t pl (x.trans (Xp.of s5)) ((pn.same s5).mono (by omega)) ⟨as, upd_same, by omega, fun i p hi => ?_⟩ ⟨lp, h1, h2, h3, n1, n2, b1, by omega, t1, by omega⟩
      obtain ⟨b, e1, e2⟩ := hpl i p hi
      exact ⟨b, e1, PlaneAt.mono e2 (TupS.of s5)⟩
end
end K22
end
section
/-! ### pictures, borders, windows, forms, tables, drawn -/
namespace K22
open PySem PySem.Spec PyProof.Rows L2 LamX NdefX
section
variable {P : Program} {w : World} {K : PySem.W.Frag} {mg : Str → Option Value} {base : Heap}
/-! _law_picture -/
def spLPic (K : PySem.W.Frag) : Sp := fun vs H Q _ => ∃ pen cs, ∃ n np dp : Nat, vs = [.ref pen, .int np, .int dp, .int 6] ∧ 1 ≤ np ∧ np ≤ 4 ∧ 1 ≤ dp ∧ dp ≤ 1000 ∧ PenAt H pen cs n ∧ n ≤ 800000 ∧
  ∀ H' a p bd tl, Xp pen H H' → PenAt H' pen cs (n + 1010) → PicAt K H' a p → OkPic np bd tl p → p.depth = dp → Q (.ref a) H'
theorem sc_law_picture : FnScope ["_law_pen_here", "_law_planes_here", "_law_deep", "_law_limit", "_law_broad", "_law_tall", "_law_west", "_law_north"] ["_law_pen_here", "_law_planes_here", "_law_deep", "_law_limit"] (defScope s_law_picture) := ⟨rfl, rfl, rfl, by decide +kernel, rfl, by decide +kernel, by decide +kernel⟩
theorem ok_law_picture (T : Fx K mg w) : Cal P w K mg base 8 "_law_picture" (spLPic K) [] := by
  have c_law_draw : Cal P w K mg base 1 "_law_draw" spDraw [] := ok_law_draw T
  have c_law_planes : Cal P w K mg base 2 "_law_planes" spLP [] := ok_law_planes T
  have c_Picture := mk_picture (P := P) (base := base) T
  refine cal_of T.d_law_picture sc_law_picture (fun _ _ _ _ _ _ us hl => match us, hl with | [_, _, _, _], _ => rfl) (fun vs H Q E h => ?_) (fun cdv A outer s H vs Q E hr h => ?_)
  · obtain ⟨pen, cs, n, np, dp, rfl, _⟩ := h
    rfl
  · refine ⟨_, (pss_cons (ps_par (i := 4) (j := 5) rfl sc_law_picture.nd rfl rfl (by decide) rfl rfl (pa_cons (pe_op op_add pe_int (pe_c c_law_draw hr (by omega) rfl (pa_cons (pv 0) (pa_cons (pv 3) pa_nil)))) (pa_cons (pe_op op_add pe_int (pe_c c_law_draw hr (by omega) rfl (pa_cons (pv 0) (pa_cons (pv 3) pa_nil)))) pa_nil)) (by rfl))
      (pss_cons (ps_par (i := 6) (j := 7) rfl sc_law_picture.nd rfl rfl (by decide) rfl rfl (pa_cons (pe_op op_sub (pe_c c_law_draw hr (by omega) rfl (pa_cons (pv 0) (pa_cons pe_int pa_nil))) pe_int) (pa_cons (pe_op op_sub (pe_c c_law_draw hr (by omega) rfl (pa_cons (pv 0) (pa_cons pe_int pa_nil))) pe_int) pa_nil)) (by rfl))
      (pss_one (ps_ret (pe_mkN c_Picture hr (by omega) rfl (pa_cons (pe_c c_law_planes hr (by omega) rfl (pa_cons (pv 0) (pa_cons (pv 1) (pa_cons (pv 4) (pa_cons (pv 5) (pa_cons (pv 2) pa_nil)))))) pa_nil) (pk_cons (pv 6) (pk_cons (pv 7) (pk_cons (pv 2) pk_nil)))))))), ?_⟩
    obtain ⟨pen, cs, n, np, dp, rfl, n1, n2, d1, d2, hp, hn, q⟩ := h
    refine ⟨_, rfl, _, rfl, pen, cs, n, 6, rfl, by omega, by omega, hp, by omega, fun z1 H1 z10 z11 y1 q1 => ?_⟩
    refine ⟨_, _, rfl, rfl, _, rfl, _, rfl, pen, cs, n + 1, 6, rfl, by omega, by omega, q1, by omega, fun z2 H2 z20 z21 y2 q2 => ?_⟩
    refine ⟨_, _, rfl, rfl, ?_⟩
    refine ⟨_, _, rfl, ?_⟩
    refine ⟨_, rfl, pen, cs, n + 1 + 1, 13, rfl, by omega, by omega, q2, by omega, fun z3 H3 z30 z31 y3 q3 => ?_⟩
    refine ⟨_, _, rfl, rfl, _, rfl, pen, cs, n + 1 + 1 + 1, 13, rfl, by omega, by omega, q3, by omega, fun z4 H4 z40 z41 y4 q4 => ?_⟩
    refine ⟨_, _, rfl, rfl, _, _, rfl, ?_⟩
    obtain ⟨bd, hbd⟩ : ∃ bd : Nat, 1 + z1 = bd := ⟨(1 + z1).toNat, by omega⟩
    obtain ⟨tl, htl⟩ : ∃ tl : Nat, 1 + z2 = tl := ⟨(1 + z2).toNat, by omega⟩
    refine ⟨_, rfl, _, rfl, _, rfl, _, rfl, _, rfl, pen, cs, n + 4, np, bd, tl, dp, (show [V.ref pen, .int np, .int (1 + z1), .int (1 + z2), .int dp] = _ from by rw [hbd, htl]), n1, n2, by omega, by omega, by omega, by omega, d1, d2, q4, by omega, fun H5 a pl x5 p5 pa ok => ?_⟩
    refine ⟨_, rfl, _, rfl, _, rfl, rfl, rfl, fun x dx hx hdx ne => ?_⟩
    have s5 : Same H5 (upd (upd H5 dx (.own x)) x (.ins (He.ga K "Picture") dx [])) := fun b o eb => by
      rw [upd_ne (ne_of_none eb hx), upd_ne (ne_of_none eb hdx)]
      exact eb
    have okp : OkPic np bd tl ⟨pl, z3 - 6, z4 - 6, dp⟩ := ⟨ok, by show (-1000 : Int) ≤ z3 - 6; omega, by show z3 - 6 ≤ (1000 : Int); omega, by show (-1000 : Int) ≤ z4 - 6; omega, by show z4 - 6 ≤ (1000 : Int); omega, by show (1 : Int) ≤ dp; omega, by show (dp : Int) ≤ 65535; omega⟩
    refine ⟨x, dx, a, np, bd, tl, ⟨pl, z3 - 6, z4 - 6, dp⟩, rfl, upd_same, PlanesAt.mono pa (TupS.of s5), okp, fun H7 fr ex => ⟨rfl, ?_⟩⟩
    have s7 : Same H5 H7 := fun b o eb => fr b o (ne_of_none eb hx) (s5 _ _ eb)
    exact q H7 x _ bd tl ((((y1.trans y2).trans y3).trans y4).trans (x5.trans (Xp.of s7))) ((p5.same s7).mono (by omega)) ⟨dx, a, ex, PlanesAt.mono pa (TupS.of s7)⟩ okp rfl
/-! _law_border -/
def spLB : Sp := fun vs H Q _ => ∃ pen cs, ∃ n dp : Nat, vs = [.ref pen, .int dp] ∧ 1 ≤ dp ∧ dp ≤ 1000 ∧ PenAt H pen cs n ∧ n ≤ 900000 ∧ ∀ H' b, Xp pen H H' → PenAt H' pen cs (n + 2) → OkBd b dp → Q b H'
theorem sc_law_border : FnScope ["_law_pen_here", "_law_deep"] ["_law_pen_here", "_law_deep"] (defScope s_law_border) := ⟨rfl, rfl, rfl, by decide +kernel, rfl, by decide +kernel, by decide +kernel⟩
theorem ok_law_border (T : Fx K mg w) : Cal P w K mg base 2 "_law_border" spLB [] := by
  have c_law_draw : Cal P w K mg base 1 "_law_draw" spDraw [] := ok_law_draw T
  refine cal_of T.d_law_border sc_law_border (fun _ _ _ _ _ _ us hl => match us, hl with | [_, _], _ => rfl) (fun vs H Q E h => ?_) (fun cdv A outer s H vs Q E hr h => ?_)
  · obtain ⟨pen, cs, n, dp, rfl, _⟩ := h
    rfl
  · refine ⟨_, (pss_one (ps_ret (pe_ix (ix_listK (K := K) rfl) (pe_lst (pa_cons pe_str (pa_cons pe_str (pa_cons pe_str (pa_cons pe_int (pa_cons (pv 1) (pa_cons (pe_c c_law_draw hr (by omega) rfl (pa_cons (pv 0) (pa_cons (pe_op op_add (pv 1) pe_int) pa_nil))) pa_nil))))))) (pe_c c_law_draw hr (by omega) rfl (pa_cons (pv 0) (pa_cons pe_int pa_nil))) (fun _ _ => rfl)))), ?_⟩
    obtain ⟨pen, cs, n, dp, rfl, d1, d2, hp, hn, q⟩ := h
    refine ⟨_, rfl, _, rfl, _, rfl, _, _, rfl, rfl, pen, cs, n, _, rfl, by omega, by omega, hp, by omega, fun z1 H1 z10 z11 y1 q1 => ?_⟩
    refine ⟨(by rw [sizeLine_eq]; exact Nat.le_of_ble_eq_true rfl), fun L hL => ?_⟩
    have q1L := q1.same (Same.new (o := .lst [.str "near", .str "wrapped", .str "mirrored", .int 0, .int dp, .int z1]) hL)
    refine ⟨_, rfl, pen, cs, n + 1, 6, rfl, by omega, by omega, q1L, by omega, fun z3 H3 z30 z31 y3 q3 => ?_⟩
    have L1 := q1.ne_none hL
    have gL : H3 L = some (.lst [.str "near", .str "wrapped", .str "mirrored", .int 0, .int dp, .int z1]) := y3 _ _ L1.1 upd_same
    obtain ⟨m, rfl⟩ : ∃ m : Nat, z3 = m := ⟨z3.toNat, by omega⟩
    obtain ⟨b, ez, zr⟩ : ∃ b, ([.str "near", .str "wrapped", .str "mirrored", .int 0, .int dp, .int z1] : List V)[m]? = some b ∧ OkBd b dp := by
      match m, z31 with
      | 0, _ => exact ⟨_, rfl, Or.inl ⟨_, rfl, Or.inl rfl⟩⟩
      | 1, _ => exact ⟨_, rfl, Or.inl ⟨_, rfl, Or.inr (Or.inl rfl)⟩⟩
      | 2, _ => exact ⟨_, rfl, Or.inl ⟨_, rfl, Or.inr (Or.inr rfl)⟩⟩
      | 3, _ => exact ⟨_, rfl, Or.inr ⟨0, rfl, by omega, by omega⟩⟩
      | 4, _ => exact ⟨_, rfl, Or.inr ⟨dp, rfl, by omega, by omega⟩⟩
      | 5, _ => exact ⟨_, rfl, Or.inr ⟨z1, rfl, by omega, by omega⟩⟩
      | m + 6, h => omega
    have hLH : H L = none := by
      cases e : H L with
      | none => rfl
      | some o => rw [y1 _ _ L1.1 e] at hL; cases hL
    exact ⟨L, _, _, b, rfl, rfl, SqL.of gL, atI_nat ez, q _ b ((y1.new hLH).trans y3) q3 zr⟩
/-! _law_window -/
def spLW : Sp := fun vs H Q _ => ∃ pen cs, ∃ n : Nat, vs = [.ref pen, .int 8, .int 5] ∧ PenAt H pen cs n ∧ n ≤ 900000 ∧ ∀ H' a l u, ∀ wd hg : Nat, Xp pen H H' → PenAt H' pen cs (n + 4) → H' a = some (.tup [.int l, .int u, .int wd, .int hg]) → -8 ≤ l → l ≤ 8 → -8 ≤ u → u ≤ 8 → 1 ≤ wd → wd ≤ 5 → 1 ≤ hg → hg ≤ 5 → Q (.ref a) H'
theorem sc_law_window : FnScope ["_law_pen_here", "_law_far", "_law_limit", "_law_west", "_law_north"] ["_law_pen_here", "_law_far", "_law_limit"] (defScope s_law_window) := ⟨rfl, rfl, rfl, by decide +kernel, rfl, by decide +kernel, by decide +kernel⟩
theorem ok_law_window (T : Fx K mg w) : Cal P w K mg base 2 "_law_window" spLW [] := by
  have c_law_draw : Cal P w K mg base 1 "_law_draw" spDraw [] := ok_law_draw T
  refine cal_of T.d_law_window sc_law_window (fun _ _ _ _ _ _ us hl => match us, hl with | [_, _, _], _ => rfl) (fun vs H Q E h => ?_) (fun cdv A outer s H vs Q E hr h => ?_)
  · obtain ⟨pen, cs, n, rfl, _⟩ := h
    rfl
  · refine ⟨_, (pss_cons (ps_par (i := 3) (j := 4) rfl sc_law_window.nd rfl rfl (by decide) rfl rfl (pa_cons (pe_op op_sub (pe_c c_law_draw hr (by omega) rfl (pa_cons (pv 0) (pa_cons (pe_op op_add (pe_op op_mul pe_int (pv 1)) pe_int) pa_nil))) (pv 1)) (pa_cons (pe_op op_sub (pe_c c_law_draw hr (by omega) rfl (pa_cons (pv 0) (pa_cons (pe_op op_add (pe_op op_mul pe_int (pv 1)) pe_int) pa_nil))) (pv 1)) pa_nil)) (by rfl))
      (pss_one (ps_ret (pe_tup (pa_cons (pv 3) (pa_cons (pv 4) (pa_cons (pe_op op_add pe_int (pe_c c_law_draw hr (by omega) rfl (pa_cons (pv 0) (pa_cons (pv 2) pa_nil)))) (pa_cons (pe_op op_add pe_int (pe_c c_law_draw hr (by omega) rfl (pa_cons (pv 0) (pa_cons (pv 2) pa_nil)))) pa_nil)))))))), ?_⟩
    obtain ⟨pen, cs, n, rfl, hp, hn, q⟩ := h
    have two : CMul 2 8 := Or.inl ⟨by decide, by decide⟩
    refine ⟨_, rfl, _, rfl, 2, 8, rfl, rfl, two, _, _, rfl, rfl, pen, cs, n, _, rfl, by decide, by decide, hp, by omega, fun z1 H1 z10 z11 y1 q1 => ?_⟩
    refine ⟨_, rfl, _, _, rfl, rfl, ?_⟩
    refine ⟨_, rfl, _, rfl, 2, 8, rfl, rfl, two, _, _, rfl, rfl, pen, cs, n + 1, _, rfl, by decide, by decide, q1, by omega, fun z2 H2 z20 z21 y2 q2 => ?_⟩
    refine ⟨_, rfl, _, _, rfl, rfl, ?_⟩
    refine ⟨_, _, rfl, ?_⟩
    refine ⟨_, rfl, _, rfl, _, rfl, _, rfl, pen, cs, n + 1 + 1, 5, rfl, by omega, by omega, q2, by omega, fun z3 H3 z30 z31 y3 q3 => ?_⟩
    refine ⟨_, _, rfl, rfl, _, rfl, _, rfl, pen, cs, n + 1 + 1 + 1, 5, rfl, by omega, by omega, q3, by omega, fun z4 H4 z40 z41 y4 q4 => ?_⟩
    refine ⟨_, _, rfl, rfl, (by rw [sizeLine_eq]; exact Nat.le_of_ble_eq_true rfl), fun t ht => ?_⟩
    obtain ⟨wd, hwd⟩ : ∃ wd : Nat, 1 + z3 = wd := ⟨(1 + z3).toNat, by omega⟩
    obtain ⟨hg, hhg⟩ : ∃ hg : Nat, 1 + z4 = hg := ⟨(1 + z4).toNat, by omega⟩
    have st := Same.new (o := .tup [.int (z1 - 8), .int (z2 - 8), .int (1 + z3), .int (1 + z4)]) ht
    refine q _ t (z1 - 8) (z2 - 8) wd hg ((((y1.trans y2).trans y3).trans y4).trans (Xp.of st)) (q4.same st) ?_ (by omega) (by omega) (by omega) (by omega) (by omega) (by omega) (by omega) (by omega)
    rw [← hwd, ← hhg]
    exact upd_same
/-! _law_sorted_table -/
def spLT : Sp := fun vs H Q _ => ∃ pen cs, ∃ n dp : Nat, vs = [.ref pen, .int dp] ∧ 1 ≤ dp ∧ dp ≤ 50 ∧ PenAt H pen cs n ∧ n ≤ 900000 ∧ ∀ H' a ts, Xp pen H H' → PenAt H' pen cs (n + 100) → RowAt H' a ts → OkTab dp ts → ts.Pairwise (· ≤ ·) → Q (.ref a) H'
theorem sc_law_sorted_table : FnScope ["_law_pen_here", "_law_deep", "_law_k"] ["_law_pen_here", "_law_deep"] (defScope s_law_sorted_table) := ⟨rfl, rfl, rfl, by decide +kernel, rfl, by decide +kernel, by decide +kernel⟩
theorem ok_law_sorted_table (T : Fx K mg w) : Cal P w K mg base 2 "_law_sorted_table" spLT [] := by
  have c_law_draw : Cal P w K mg base 1 "_law_draw" spDraw [] := ok_law_draw T
  refine cal_of T.d_law_sorted_table sc_law_sorted_table (fun _ _ _ _ _ _ us hl => match us, hl with | [_, _], _ => rfl) (fun vs H Q E h => ?_) (fun cdv A outer s H vs Q E hr h => ?_)
  · obtain ⟨pen, cs, n, dp, rfl, _⟩ := h
    rfl
  · refine ⟨_, (pss_one (ps_ret (pe_callTy (call_tupleK (K := K) rfl) (by rfl) T.f_tuple (by decide +kernel) (pa_cons (pe_callB (id := "sorted") (cr_sortedK (K := K) rfl) (by rfl) T.f_sorted (by decide +kernel) (pa_cons (pe_lc (own := [("_law_k", 2)]) rfl sc_law_sorted_table.nd (pi_range1 (by rfl) T.f_range (pa_cons (pe_op op_add (pv 1) pe_int) pa_nil)) (blkOk_by (N := ["_law_pen_here", "_law_deep", "_law_k"]) (sc := defScope s_law_sorted_table) (by decide +kernel)) (fun _ _ _ _ _ => (pg_name (i := 2) sc_law_sorted_table.nd rfl (by first | exact Or.inl rfl | exact Or.inr rfl))) (fun _ _ _ _ _ => pts_nil) (fun _ _ _ _ _ => (pe_c c_law_draw hr (by omega) rfl (pa_cons (pv 0) (pa_cons (pe_op op_add (pv 1) pe_int) pa_nil))))) pa_nil)) pa_nil)))), ?_⟩
    obtain ⟨pen, cs, n, dp, rfl, d1, d2, hp, hn, q⟩ := h
    refine ⟨_, rfl, _, _, rfl, rfl, (dp : Int) + 1, rfl, by omega, by omega, fun D hD => ?_⟩
    rw [show ((dp : Int) + 1).toNat = dp + 1 from by omega]
    have D1 := hp.ne_none hD
    refine lc_anyI (n := dp + 1) (fun i v => v = .int (0 + (i : Int))) (fun i G => Xp pen H G ∧ PenAt G pen cs (n + i)) (fun i y _ => ∃ z : Int, y = .int z ∧ 0 ≤ z ∧ z ≤ dp) ⟨Xp.of (Same.new hD), hp.same (Same.new hD)⟩ (fun i G hi _ => it_rng hi) (fun i G acc acc' j e => ⟨j.1.new hD, j.2.put D1⟩) (fun _ _ _ _ _ h => h) (by omega)
      (fun i v G acc Fin li ev j e k => ?_) fun G acc j e el ho => ?_
    · refine ⟨rfl, _, rfl, _, rfl, _, _, rfl, rfl, pen, cs, n + i, _, rfl, by omega, by omega, j.2, by omega, fun z1 H1 z10 z11 y1 q1 => ?_⟩
      exact k _ _ ⟨j.1.trans y1, q1⟩ (y1 _ _ D1.1 e) (y1.tups j.2) ⟨z1, rfl, z10, by omega⟩
    · obtain ⟨x1, p1⟩ := j
      have ha : acc = (acc.map fun v => match v with | .int z => z | _ => 0).map V.int := by
        apply List.ext_getElem?
        intro i
        by_cases hi : i < acc.length
        · have e1 : acc[i]? = some acc[i] := by simp [hi]
          obtain ⟨z, e2, _⟩ := ho i _ e1
          rw [e2] at e1
          rw [List.getElem?_map, List.getElem?_map, e1]
          rfl
        · rw [List.getElem?_eq_none (by omega), List.getElem?_eq_none (by simp; omega)]
      have hr1 : ∀ z ∈ (acc.map fun v => match v with | .int z => z | _ => 0), 0 ≤ z ∧ z ≤ (dp : Int) := by
        intro z hz
        obtain ⟨i, hi⟩ := List.mem_iff_getElem?.mp hz
        rw [List.getElem?_map] at hi
        cases e1 : acc[i]? with
        | none => rw [e1] at hi; cases hi
        | some y =>
          obtain ⟨z2, e2, r1, r2⟩ := ho i y e1
          rw [e1, e2] at hi
          cases hi
          exact ⟨r1, r2⟩
      have hl1 : (acc.map fun v => match v with | .int z => z | _ => 0).length = dp + 1 := by rw [List.length_map, el]
      generalize (acc.map fun v => match v with | .int z => z | _ => 0) = ns at ha hr1 hl1
      subst ha
      refine ⟨D, ns, rfl, SqL.of e, by omega, fun ns' p pm st hp2 => ?_⟩
      refine ⟨p, _, rfl, Or.inl ⟨SqL.of upd_same, fun t ht => ?_⟩⟩
      have s2 := (Same.new (o := .lst (ns'.map V.int)) hp2).trans (Same.new (o := .tup (ns'.map V.int)) ht)
      exact q _ t ns' (x1.trans (Xp.of s2)) ((p1.same s2).mono (by omega)) upd_same ⟨by rw [pm.length_eq, hl1], fun z hz => hr1 z (pm.mem_iff.mp hz), d1, by omega⟩ st
def plcD (c : Int × Int) : PyData := .tuple [.int c.1, .int c.2]
theorem plc_lay (c : Int × Int) : (plcD c).canLay0 = true := by simp [plcD, PyData.canLay0, PyData.canLayAll0]
theorem plc_depth (c : Int × Int) : (plcD c).depth ≤ 1 := by simp [plcD, PyData.depth, PyData.depthAll]
theorem plc_shaped (c : Int × Int) : SeqAt.shaped (plcD c) = true := by
  unfold SeqAt.shaped
  rw [Bool.and_eq_true]
  exact ⟨plc_lay c, decide_eq_true (by have := plc_depth c; omega)⟩
theorem plcs_shaped (f : List (Int × Int)) : SeqAt.shaped (.list (f.map plcD)) = true := by
  unfold SeqAt.shaped
  rw [Bool.and_eq_true]
  refine ⟨by simp only [PyData.canLay0]; exact lay_all plc_lay f, decide_eq_true ?_⟩
  have := depth_all plc_depth f
  simp only [PyData.depth]
  omega
theorem plc_any (c : Int × Int) (f : List (Int × Int)) : ((f.map plcD).any fun z => PyData.eqv z (plcD c)) = decide (c ∈ f) := by
  rw [Bool.eq_iff_iff, List.any_eq_true, decide_eq_true_eq]
  constructor
  · rintro ⟨z, hz, e⟩
    obtain ⟨d, hd, rfl⟩ := List.mem_map.mp hz
    have : d = c := by
      simp [plcD, PyData.eqv, PyData.eqvAll] at e
      exact Prod.ext e.1 e.2
    rw [← this]
    exact hd
  · intro h
    exact ⟨_, List.mem_map.mpr ⟨c, h, rfl⟩, by simp [plcD, PyData.eqv, PyData.eqvAll]⟩
/-! _law_form -/
def spLF : Sp := fun vs H Q _ => ∃ pen cs, ∃ n lm : Nat, vs = [.ref pen, .int lm] ∧ 1 ≤ lm ∧ lm ≤ 9 ∧ PenAt H pen cs n ∧ n ≤ 900000 ∧ ∀ H' a f, Xp pen H H' → PenAt H' pen cs (n + 100) → FormAt H' a f → OkForm f → f.length ≤ lm → Q (.ref a) H'
theorem sc_law_form : FnScope ["_law_pen_here", "_law_limit", "_law_form_here", "_law_k", "_law_place"] ["_law_pen_here", "_law_limit"] (defScope s_law_form) := ⟨rfl, rfl, rfl, by decide +kernel, rfl, by decide +kernel, by decide +kernel⟩
theorem ok_law_form (T : Fx K mg w) : Cal P w K mg base 2 "_law_form" spLF [] := by
  have c_law_draw : Cal P w K mg base 1 "_law_draw" spDraw [] := ok_law_draw T
  refine cal_of T.d_law_form sc_law_form (fun _ _ _ _ _ _ us hl => match us, hl with | [_, _], _ => rfl) (fun vs H Q E h => ?_) (fun cdv A outer s H vs Q E hr h => ?_)
  · obtain ⟨pen, cs, n, lm, rfl, _⟩ := h
    rfl
  · have hu65 : (A.deeper (envOfC "_law_form" (defScope s_law_form) s.heap.objs.size (He.ga K "_law_form") cdv)).units + 65 < cLine := by have := hr.un; omega
    refine ⟨_, (pss_cons (ps_set (i := 2) sc_law_form.nd rfl (Or.inl rfl) (pe_lst pa_nil))
      (pss_cons (ps_for PassesOwn.never rfl (pi_range1 (by rfl) T.f_range (pa_cons (pe_op op_add pe_int (pe_c c_law_draw hr (by omega) rfl (pa_cons (pv 0) (pa_cons (pv 1) pa_nil)))) pa_nil)) (pg_name (i := 3) sc_law_form.nd rfl (Or.inl rfl)) (pss_cons (ps_set (i := 4) sc_law_form.nd rfl (Or.inl rfl) (pe_tup (pa_cons (pe_op op_sub (pe_c c_law_draw hr (by omega) rfl (pa_cons (pv 0) (pa_cons pe_int pa_nil))) pe_int) (pa_cons (pe_op op_sub (pe_c c_law_draw hr (by omega) rfl (pa_cons (pv 0) (pa_cons (pe_ix (ix_listK (K := K) rfl) (pe_lst (pa_cons pe_int (pa_cons pe_int pa_nil))) (pe_c c_law_draw hr (by omega) rfl (pa_cons (pv 0) (pa_cons pe_int pa_nil))) (fun _ _ => rfl)) pa_nil))) pe_int) pa_nil))))
      (C8.pss_cut (ps_if (pt_cmpR op_gt (pe_ix (ix_tupK (K := K) rfl) (pv 4) pe_int (fun _ _ => rfl)) pe_int (nomark _)) (pss_one (ps_set (i := 4) sc_law_form.nd rfl (Or.inl rfl) (pe_tup (pa_cons (pe_ix (ix_tupK (K := K) rfl) (pv 4) pe_int (fun _ _ => rfl)) (pa_cons (pe_un un_neg pe_int) pa_nil))))) pss_nil)
      (pss_one (ps_if (pt_cmpR (op_notInD hu65) (pv 4) (pv 2) (by rfl)) (pss_one (ps_expr (pe_bm PySem.F.plainAttrs_list PySem.F.slot_list_append PySem.F.type_list_append mt_append (pv 2) (pa_cons (pv 4) pa_nil)))) pss_nil)))))
      (pss_one (ps_ret (pe_callTy (call_tupleK (K := K) rfl) (by rfl) T.f_tuple (by decide +kernel) (pa_cons (pv 2) pa_nil)))))), ?_⟩
    obtain ⟨pen, cs, n, lm, rfl, l1, l2, hp, hn, q⟩ := h
    refine ⟨(by rw [sizeLine_eq]; exact Nat.le_of_ble_eq_true rfl), fun F hF => ?_⟩
    have F1 := hp.ne_none hF
    have pF := hp.same (Same.new (o := .lst []) hF)
    refine ⟨_, rfl, _, rfl, pen, cs, n, lm, rfl, by omega, by omega, pF, by omega, fun z0 H0 z00 z01 y0 q0 => ?_⟩
    refine ⟨_, _, rfl, rfl, 1 + z0, rfl, by omega, by omega, ?_⟩
    obtain ⟨tn, htn⟩ : ∃ tn : Nat, (1 + z0).toNat = tn := ⟨_, rfl⟩
    rw [htn]
    have tn1 : 1 ≤ tn := by omega
    have tn2 : tn ≤ lm := by omega
    have gF0 : H0 F = some (.lst []) := y0 _ _ F1.1 upd_same
    have x0 : Xp pen H H0 := (Xp.of (Same.new hF)).trans y0
    refine for_any (n := tn) (fun i v => v = .int (0 + (i : Int))) (fun i σ G => ∃ (as : List Addr) (f : List (Int × Int)) (o3 o4 : Option V), σ = [some (.ref pen), some (.int lm), some (.ref F), o3, o4] ∧ Xp pen H G ∧ PenAt G pen cs (n + 1 + i * 3) ∧ G F = some (.lst (as.map V.ref)) ∧ as.length = f.length ∧ (∀ (i2 : Nat) c, f[i2]? = some c → ∃ b, as[i2]? = some b ∧ PlaceAt G b c) ∧
        f.Nodup ∧ (∀ c ∈ f, -4 ≤ c.1 ∧ c.1 ≤ 4 ∧ -4 ≤ c.2 ∧ c.2 ≤ 4) ∧ f.length ≤ i ∧ (0 < i → f ≠ []))
      ⟨[], [], none, none, rfl, x0, q0, gF0, rfl, fun i2 c h => (by simp at h), List.nodup_nil, fun c h => (by cases h), Nat.le_refl _, fun h => absurd h (by omega)⟩ (fun i σ G hi _ => it_rng hi) (fun i v σ G N li ev j k => ?_) fun σ G j => ?_
    · obtain ⟨as, f, o3, o4, rfl, x, pn, gF, la, hf, nd, rg, lf, ne⟩ := j
      subst ev
      have bk : n + 1 + (i + 1) * 3 = n + 1 + i * 3 + 3 := by omega
      have room : n + 1 + i * 3 ≤ 900100 := by omega
      rw [bk] at k
      generalize n + 1 + i * 3 = n0 at pn room k
      refine ⟨_, rfl, pen, cs, n0, 9, rfl, by omega, by omega, pn, by omega, fun z1 H1 z10 z11 y1 q1 => ?_⟩
      refine ⟨_, _, rfl, rfl, _, rfl, (by rw [sizeLine_eq]; exact Nat.le_of_ble_eq_true rfl), fun L hL => ?_⟩
      have L1 := q1.ne_none hL
      have qL := q1.same (Same.new (o := .lst [.int 3, .int 9]) hL)
      refine ⟨_, rfl, pen, cs, n0 + 1, 2, rfl, by omega, by omega, qL, by omega, fun z2 H2 z20 z21 y2 q2 => ?_⟩
      have gL : H2 L = some (.lst [.int 3, .int 9]) := y2 _ _ L1.1 upd_same
      obtain ⟨m, rfl⟩ : ∃ m : Nat, z2 = m := ⟨z2.toNat, by omega⟩
      obtain ⟨mx, ez, mr1, mr2⟩ : ∃ mx : Int, ([.int 3, .int 9] : List V)[m]? = some (.int mx) ∧ 1 ≤ mx ∧ mx ≤ 9 := by
        match m, z21 with
        | 0, _ => exact ⟨3, rfl, by omega, by omega⟩
        | 1, _ => exact ⟨9, rfl, by omega, by omega⟩
        | m + 2, h => omega
      refine ⟨L, _, _, _, rfl, rfl, SqL.of gL, atI_nat ez, pen, cs, n0 + 2, mx, rfl, mr1, by omega, q2, by omega, fun z3 H3 z30 z31 y3 q3 => ?_⟩
      refine ⟨_, _, rfl, rfl, (by rw [sizeLine_eq]; exact Nat.le_of_ble_eq_true rfl), fun pt hpt => ?_⟩
      have hLG : G L = none := by
        cases e : G L with
        | none => rfl
        | some o => rw [y1 _ _ L1.1 e] at hL; cases hL
      have xa : Xp pen G H3 := ((y1.new (o := .lst [.int 3, .int 9]) hLG).trans y2).trans y3
      have spt := Same.new (o := .tup [.int (z1 - 4), .int (z3 - 1)]) hpt
      have xb : Xp pen G (upd H3 pt (.tup [.int (z1 - 4), .int (z3 - 1)])) := xa.trans (Xp.of spt)
      have q4 := q3.same spt
      refine ⟨fun σ' G' => ∃ b c1 c2, σ' = [some (.ref pen), some (.int lm), some (.ref F), some (.int (0 + (i : Int))), some (.ref b)] ∧ Xp pen G G' ∧ PenAt G' pen cs (n0 + 3) ∧ PlaceAt G' b (c1, c2) ∧ -4 ≤ c1 ∧ c1 ≤ 4 ∧ -4 ≤ c2 ∧ c2 ≤ 4, ?_, ?_⟩
      · refine ⟨_, rfl, _, _, _, _, rfl, rfl, SqT.of upd_same, atI_nat (j := 1) rfl, _, _, rfl, rfl, _, rfl, ?_⟩
        by_cases c4 : z3 - 1 > 4
        · refine if_true c4 ?_
          refine ⟨_, rfl, _, _, _, _, rfl, rfl, SqT.of upd_same, atI_nat (j := 0) rfl, 4, rfl, (by rw [sizeLine_eq]; exact Nat.le_of_ble_eq_true rfl), fun pt2 hpt2 => ?_⟩
          have spt2 := Same.new (o := .tup [.int (z1 - 4), .int (-4)]) hpt2
          exact ⟨pt2, z1 - 4, -4, rfl, xb.trans (Xp.of spt2), q4.same spt2, upd_same, by omega, by omega, by omega, by omega⟩
        · exact if_false c4 ⟨pt, z1 - 4, z3 - 1, rfl, xb, q4, upd_same, by omega, by omega, by omega, by omega⟩
      · rintro σ' G' ⟨b, c1, c2, rfl, xg, pg, hb, r1, r2, r3, r4⟩
        have gF2 := xg _ _ F1.1 gF
        have hf2 : ∀ (i2 : Nat) c, f[i2]? = some c → ∃ b, as[i2]? = some b ∧ PlaceAt G' b c := fun i2 c e => by
          obtain ⟨b, e1, e2⟩ := hf i2 c e
          exact ⟨b, e1, xg.tups pn _ _ e2⟩
        refine ⟨_, rfl, _, rfl, plcD (c1, c2), f.map plcD, .tup (SqT.of hb) (.cons (.int _) (.cons (.int _) .nil)), .lst (SqL.of gF2) (dp_all f as la fun i2 c e => by
          obtain ⟨b, e1, e2⟩ := hf2 i2 c e
          exact ⟨b, e1, .tup (SqT.of e2) (.cons (.int _) (.cons (.int _) .nil))⟩), plc_shaped _, plcs_shaped f, _, rfl, ?_⟩
        rw [plc_any]
        by_cases cm : (c1, c2) ∈ f
        · refine if_nottrue cm (k _ _ ⟨as, f, _, _, rfl, x.trans xg, pg, gF2, la, hf2, nd, rg, by omega, fun _ z => ?_⟩)
          rw [z] at cm
          cases cm
        · refine if_notfalse cm ?_
          refine ⟨_, rfl, Or.inl ⟨rfl, _, SqL.of gF2⟩, _, rfl, F, _, _, rfl, rfl, gF2, by rw [sizeLine_eq, List.length_map]; omega, ?_⟩
          have ts : TupS G' (upd G' F (.lst (as.map V.ref ++ [V.ref b]))) := fun b ys e => (upd_ne (ne_of e gF2 (by intro y; cases y))).trans e
          refine k _ _ ⟨as ++ [b], f ++ [(c1, c2)], _, _, rfl, (x.trans xg).new hF, pg.put F1, by rw [upd_same, List.map_append]; rfl, by simp [la], fun i2 c e => ?_, ?_, fun c hc => ?_, by simp; omega, fun _ z => by simp at z⟩
          · by_cases c1 : i2 < f.length
            · rw [List.getElem?_append_left c1] at e
              obtain ⟨b2, e1, e2⟩ := hf2 i2 c e
              exact ⟨b2, by rw [List.getElem?_append_left (by omega)]; exact e1, ts _ _ e2⟩
            · have e0 : i2 = f.length := by
                have := (List.getElem?_eq_some_iff.mp e).1
                simp at this
                omega
              subst e0
              rw [List.getElem?_append_right (Nat.le_refl _)] at e
              simp at e
              subst e
              exact ⟨b, by rw [List.getElem?_append_right (by omega)]; simp [la], ts _ _ hb⟩
          · rw [List.nodup_append]
            refine ⟨nd, by simp, fun a ha b hb e => ?_⟩
            rw [List.mem_singleton.mp hb] at e
            rw [e] at ha
            exact cm ha
          · rcases List.mem_append.mp hc with h | h
            · exact rg c h
            · rw [List.mem_singleton.mp h]; exact ⟨r1, r2, r3, r4⟩
    · obtain ⟨as, f, o3, o4, rfl, x, pn, gF, la, hf, nd, rg, lf, ne⟩ := j
      refine ⟨_, rfl, F, _, rfl, Or.inl ⟨SqL.of gF, fun t ht => ?_⟩⟩
      have s5 := Same.new (o := .tup (as.map V.ref)) ht
      have l1 : f.length ≠ 0 := fun z => ne (by omega) (List.eq_nil_of_length_eq_zero z)
      refine q _ t f (x.trans (Xp.of s5)) ((pn.same s5).mono (by omega)) ⟨as, upd_same, la, fun i c e => ?_⟩ ⟨nd, by omega, by omega, rg⟩ (by omega)
      obtain ⟨b, e1, e2⟩ := hf i c e
      exact ⟨b, e1, s5 _ _ e2⟩
end
end K22
end
section
/-! ### within -/
namespace K22
open PySem PySem.Spec PyProof.Rows L2 LamX NdefX
theorem pget_of (g : Int → Int → Nat → Int) (l u : Int) {wd hg np k j i : Nat} (hk : k < np) (hj : j < hg) (hi : i < wd) : pget (planesOf g l u wd hg np) k j i = g (l + (i : Int)) (u + (j : Int)) k := by
  unfold pget planesOf planeOf rowOf
  simp [List.getD_eq_getElem?_getD, hk, hj, hi]
theorem inV_int (z : Int) (ns : List Int) : inV (V.int z) (ns.map V.int) = decide (z ∈ ns) := by
  unfold inV
  rw [Bool.eq_iff_iff, List.any_eq_true, decide_eq_true_eq]
  constructor
  · rintro ⟨v, hv, e⟩
    obtain ⟨n, hn, rfl⟩ := List.mem_map.mp hv
    have : n = z := by simpa [eqV] using e
    rw [← this]
    exact hn
  · intro h
    exact ⟨V.int z, List.mem_map.mpr ⟨z, h, rfl⟩, by simp [eqV]⟩
theorem ints_flat (ns : List Int) : (ns.map V.int).all flatV = true := by
  rw [List.all_eq_true]
  intro v hv
  obtain ⟨n, _, rfl⟩ := List.mem_map.mp hv
  rfl
section
variable {P : Program} {w : World} {K : PySem.W.Frag} {mg : Str → Option Value} {base : Heap}
def spWithin (K : PySem.W.Frag) : Sp := fun vs H Q _ => ∃ net nm fa wn lv f r, ∃ np dp wd hg : Nat, ∃ l u, ∃ e : Nt, vs = [.ref net, .str nm, .ref fa, .ref wn] ∧ NetAt K H net e np dp ∧ OkNt np dp lv e ∧ (∀ nm, lv nm ≤ 2) ∧ stg? e nm = some (.rnk "t" f r) ∧ FormAt H fa f ∧ H wn = some (.tup [.int l, .int u, .int wd, .int hg]) ∧
  -100 ≤ l ∧ l ≤ 100 ∧ -100 ≤ u ∧ u ≤ 100 ∧ 1 ≤ wd ∧ wd ≤ 10 ∧ 1 ≤ hg ∧ hg ≤ 10 ∧ 1 ≤ np ∧ np ≤ 4 ∧ 1 ≤ dp ∧ dp ≤ 65535 ∧ TabsN (Tb K) H ∧ ∀ H', ExtN H H' → TabsN (Tb K) H' → Q (.bl true) H'
theorem sc_law_within : FnScope ["_law_net", "_law_name", "_law_form_here", "_law_window_here", "_law_west", "_law_north", "_law_broad", "_law_tall", "_law_found", "_law_around", "_law_p", "_law_y", "_law_x", "_law_some", "_law_dx", "_law_dy"] ["_law_net", "_law_name", "_law_form_here", "_law_window_here"] (defScope s_law_within) := ⟨rfl, rfl, rfl, by decide +kernel, rfl, by decide +kernel, by decide +kernel⟩
theorem ok_law_within (T : Fx K mg w) (TBn : TabB base mg (He.cT K ("numbers_at", none)).1 (He.cT K ("numbers_at", none)).2) (TB : TabB base mg (He.cT K ("Net", some "whole")).1 (He.cT K ("Net", some "whole")).2) : Cal P w K mg base 22 "_law_within" (spWithin K) [] := by
  have c_whole : Met P w K mg base 21 (He.ga K "Net") "whole" (spWholeN K) := ok_whole T TBn TB
  have c_at := mt_at (P := P) (base := base) T
  refine cal_of T.d_law_within sc_law_within (fun _ _ _ _ _ _ us hl => match us, hl with | [_, _, _, _], _ => rfl) (fun vs H Q E h => ?_) (fun cdv A outer s H vs Q E hr h => ?_)
  · obtain ⟨net, nm, fa, wn, lv, f, r, np, dp, wd, hg, l, u, e, rfl, _⟩ := h
    rfl
  · refine ⟨_, (pss_cons (ps_asg (pv 3) (pg_tupK (K := K) (n := 4) rfl rfl (pgs_cons (pg_name (i := 4) sc_law_within.nd rfl (Or.inl rfl)) (pgs_cons (pg_name (i := 5) sc_law_within.nd rfl (Or.inl rfl)) (pgs_cons (pg_name (i := 6) sc_law_within.nd rfl (Or.inl rfl)) (pgs_cons (pg_name (i := 7) sc_law_within.nd rfl (Or.inl rfl)) pgs_nil))))))
      (pss_cons (ps_set (i := 8) sc_law_within.nd rfl (Or.inl rfl) (pe_mt c_whole hr (by omega) (pv 0) (pa_cons (pv 1) (pa_cons (pv 3) pa_nil))))
      (pss_cons (ps_set (i := 9) sc_law_within.nd rfl (Or.inr rfl) (pe_mt c_whole hr (by omega) (pv 0) (pa_cons pe_str (pa_cons (pe_tup (pa_cons (pe_op op_sub (pv 4) pe_int) (pa_cons (pe_op op_sub (pv 5) pe_int) (pa_cons (pe_op op_add (pv 6) pe_int) (pa_cons (pe_op op_add (pv 7) pe_int) pa_nil))))) pa_nil))))
      (pss_cons (ps_for PassesOwn.never rfl (pi_range1 (by rfl) T.f_range (pa_cons (pe_callB (id := "len") (cr_lenK (K := K) rfl) (by rfl) T.f_len (by decide +kernel) (pa_cons (pe_fld (pv 8) rfl) pa_nil)) pa_nil)) (pg_name (i := 10) sc_law_within.nd rfl (Or.inr rfl)) (pss_one (ps_for PassesOwn.never rfl (pi_range2 (by rfl) T.f_range (pa_cons (pv 5) (pa_cons (pe_op op_add (pv 5) (pv 7)) pa_nil))) (pg_name (i := 11) sc_law_within.nd rfl (Or.inr rfl)) (pss_one (ps_for PassesOwn.never rfl (pi_range2 (by rfl) T.f_range (pa_cons (pv 4) (pa_cons (pe_op op_add (pv 4) (pv 6)) pa_nil))) (pg_name (i := 12) sc_law_within.nd rfl (Or.inr rfl)) (pss_cons (ps_setLc (i := 13) (own := [("_law_dx", 14), ("_law_dy", 15)]) rfl sc_law_within.nd rfl rfl (sw_true rfl rfl rfl (by decide +kernel)) (pi_tupK (K := K) rfl (pv 2)) (blkOk_by (N := ["_law_net", "_law_name", "_law_form_here", "_law_window_here", "_law_west", "_law_north", "_law_broad", "_law_tall", "_law_found", "_law_around", "_law_p", "_law_y", "_law_x", "_law_some", "_law_dx", "_law_dy"]) (sc := defScope s_law_within) (by decide +kernel)) (fun _ _ _ _ _ => (pg_tupK (K := K) (n := 2) rfl rfl (pgs_cons (pg_name (i := 14) sc_law_within.nd rfl (by first | exact Or.inl rfl | exact Or.inr rfl)) (pgs_cons (pg_name (i := 15) sc_law_within.nd rfl (by first | exact Or.inl rfl | exact Or.inr rfl)) pgs_nil)))) (fun _ _ _ _ _ => pts_nil) (fun _ _ _ _ _ => (pe_mtN c_at hr (by omega) (pv 9) (pa_cons (pe_op op_add (pv 12) (pv 14)) (pa_cons (pe_op op_add (pv 11) (pv 15)) pa_nil)) (pk_cons (pv 10) pk_nil))))
      (pss_one (ps_if (pt_cmpR (op_notIn_seqK (K := K) rfl) (pe_mtN c_at hr (by omega) (pv 8) (pa_cons (pv 12) (pa_cons (pv 11) pa_nil)) (pk_cons (pv 10) pk_nil)) (pv 13) (by rfl)) (pss_one (ps_ret pe_bl)) pss_nil))))))))
      (pss_one (ps_ret pe_bl)))))), ?_⟩
    obtain ⟨net, nm, fa, wn, lv, f, r, np, dp, wd, hg, l, u, e, rfl, hN, O, h2, hs, hfa, hwn, l1, l2, u1, u2, w1, w2, h1, h3, n1, n2, d1, d2, hT, q⟩ := h
    have hnm : nm ∈ nms e := stg_mem.mpr ⟨_, hs⟩
    have htm := (O.parts nm _ hs "t" (List.mem_singleton.mpr rfl)).1
    have Of : OkForm f := (O.stg nm _ hs).2.1
    have Orr : r < f.length := (O.stg nm _ hs).2.2
    obtain ⟨dx, sd, hd, hnet, hsd, hhd⟩ := id hN.ex
    refine ⟨_, rfl, _, _, rfl, SqT.of (hwn), rfl, _, _, rfl, _, _, rfl, _, _, rfl, _, _, rfl, rfl, ?_⟩
    refine ⟨_, rfl, net, dx, _, rfl, hnet, rfl, _, rfl, _, rfl, net, nm, wn, l, u, lv, wd, hg, np, dp, e, rfl, hN, O, h2, hnm, hwn, by omega, by omega, by omega, by omega, w1, by omega, h1, by omega, n1, n2, d1, d2, hT, fun H1 fp E1 T1 pf => ?_⟩
    have hnet1 := E1 _ _ hnet fun ps z => by cases z
    refine ⟨_, rfl, net, dx, _, rfl, hnet1, rfl, _, rfl, _, _, rfl, rfl, _, rfl, _, _, rfl, rfl, _, rfl, _, _, rfl, rfl, _, rfl, _, _, rfl, rfl, (by rw [sizeLine_eq]; exact Nat.le_of_ble_eq_true rfl), fun t2 ht2 => ?_⟩
    have st2 := Same.new (o := .tup [.int (l - 4), .int (u - 4), .int (wd + 8), .int (hg + 8)]) ht2
    have E2 : ExtN H (upd H1 t2 (.tup [.int (l - 4), .int (u - 4), .int (wd + 8), .int (hg + 8)])) := E1.trans (ExtN.of st2)
    have N2 : NetAt K (upd H1 t2 (.tup [.int (l - 4), .int (u - 4), .int (wd + 8), .int (hg + 8)])) net e np dp := ⟨dx, sd, hd, st2 _ _ hnet1, hsd.mono (Kp.ext E2), hhd.mono (K := K) (Kp.ext E2)⟩
    refine ⟨net, "t", t2, l - 4, u - 4, lv, wd + 8, hg + 8, np, dp, e, rfl, N2, O, h2, htm, (by rw [upd_same]; rfl), by omega, by omega, by omega, by omega, by omega, by omega, by omega, by omega, n1, n2, d1, d2, tabsN_same T1 st2, fun H3 ap E3 T3 pa => ?_⟩
    have E4 : ExtN H H3 := E2.trans E3
    have pf3 := (pf.mono (Kp.of st2)).mono (Kp.ext E3)
    obtain ⟨dxf, plf, hfp, hplf⟩ := id pf3
    obtain ⟨dxa, pla, hap, hpla⟩ := id pa
    obtain ⟨asf, easf, lasf, _⟩ := id hplf
    have hfa3 : FormAt H3 fa f := FormAt.mono hfa (Kp.ext (K := K) E4).tups
    obtain ⟨asF, eF, lF, mF⟩ := id hfa3
    have okf : OkPl np wd hg (dp : Int) (planesOf (ev e nm) l u wd hg np) := planesOf_ok O h2 hnm n1 n2 w1 (by omega) h1 (by omega)
    have oka : OkPl np (wd + 8) (hg + 8) (dp : Int) (planesOf (ev e "t") (l - 4) (u - 4) (wd + 8) (hg + 8) np) := planesOf_ok O h2 htm n1 n2 (by omega) (by omega) (by omega) (by omega)
    refine ⟨_, rfl, _, _, _, _, _, rfl, (hfp), T.cl_Picture, T.na_planes, rfl, .ref _, _, rfl, Or.inr ⟨_, SqT.of (easf), rfl⟩, _, rfl, by omega, by (have := okf.n; simp at lasf; simp; omega), ?_⟩
    rw [show (((asf.map V.ref).length : Nat) : Int).toNat = np from by rw [List.length_map, lasf, okf.n]; omega]
    have ends : ∀ G, Same H3 G → Q (.bl true) G := fun G s => q G (E4.trans (ExtN.of s)) (tabsN_same T3 s)
    refine for_any (n := np) (fun p v => v = .int (p : Int)) (fun p σ G => Same H3 G ∧ ∃ o10 o11 o12 o13, σ = [some (.ref net), some (.str nm), some (.ref fa), some (.ref wn), some (.int l), some (.int u), some (.int wd), some (.int hg), some (.ref fp), some (.ref ap), o10, o11, o12, o13, none, none]) ⟨fun _ _ z => z, _, _, _, _, rfl⟩ (fun p σ G hp _ => ?_) (fun p v σ G N lp ev0 j k => ?_) fun σ G j => ?_
    · obtain ⟨z1, z2⟩ := it_rng (lo := 0) (G := G) hp
      exact ⟨z1, fun lt => ⟨(z2 lt).1, fun x G' y => by
        obtain ⟨a, b⟩ := (z2 lt).2 x G' y
        exact ⟨a, by rw [b]; congr 1; omega⟩⟩⟩
    · obtain ⟨sG, o10, o11, o12, o13, rfl⟩ := j
      subst ev0
      refine ⟨_, rfl, _, rfl, _, rfl, _, _, rfl, rfl, u, u + hg, rfl, ⟨by omega, by omega, by omega, by omega⟩, ?_⟩
      rw [show (u + (hg : Int) - u).toNat = hg from by omega]
      refine for_any (n := hg) (fun j v => v = .int (u + (j : Int))) (fun j σ G => Same H3 G ∧ ∃ o11 o12 o13, σ = [some (.ref net), some (.str nm), some (.ref fa), some (.ref wn), some (.int l), some (.int u), some (.int wd), some (.int hg), some (.ref fp), some (.ref ap), some (.int p), o11, o12, o13, none, none]) ⟨sG, _, _, _, rfl⟩ (fun j σ G hj _ => it_rng hj) (fun j v σ G N2 lj ev0 jj k2 => ?_) fun σ G jj => ?_
      · obtain ⟨sG2, o11, o12, o13, rfl⟩ := jj
        subst ev0
        refine ⟨_, rfl, _, rfl, _, rfl, _, _, rfl, rfl, l, l + wd, rfl, ⟨by omega, by omega, by omega, by omega⟩, ?_⟩
        rw [show (l + (wd : Int) - l).toNat = wd from by omega]
        refine for_any (n := wd) (fun i v => v = .int (l + (i : Int))) (fun i σ G => Same H3 G ∧ ∃ o12 o13, σ = [some (.ref net), some (.str nm), some (.ref fa), some (.ref wn), some (.int l), some (.int u), some (.int wd), some (.int hg), some (.ref fp), some (.ref ap), some (.int p), some (.int (u + (j : Int))), o12, o13, none, none]) ⟨sG2, _, _, rfl⟩ (fun i σ G hi _ => it_rng hi) (fun i v σ G N3 li ev0 jj k3 => ?_) fun σ G jj => ?_
        · obtain ⟨sG3, o12, o13, rfl⟩ := jj
          subst ev0
          refine ⟨_, rfl, fa, rfl, ⟨_, SqT.of (sG3 _ _ eF)⟩, fun D hD => ?_⟩
          refine lc_tupG (xs := asF.map V.ref) (fun G' => Same G G') (fun i2 v _ => ∃ c, f[i2]? = some c ∧ v = .int (ev e "t" (l + (i : Int) + c.1) (u + (j : Int) + c.2) p)) (Same.new hD) (fun G' z => SqT.of (z _ _ (sG3 _ _ eF))) (fun G' acc acc' z e => z.to' hD) (fun _ _ _ _ _ h => h) (by have := Of.n2; simp; omega) (fun i2 v G' acc Fin hx z ee k4 => ?_) fun G' acc z ee el ho => ?_
          · have li2 : i2 < f.length := by
              have := (List.getElem?_eq_some_iff.mp hx).1
              simp at this
              omega
            obtain ⟨b, eb, hb⟩ := mF i2 f[i2] (by simp [li2])
            have ev2 : v = .ref b := by
              rw [List.getElem?_map, eb] at hx
              exact (Option.some.inj hx).symm
            subst ev2
            have sH := sG3.trans z
            obtain ⟨r1, r2, r3, r4⟩ := Of.rng f[i2] (List.getElem_mem li2)
            generalize hc : f[i2] = c at hb r1 r2 r3 r4
            obtain ⟨i4, hi4⟩ : ∃ i4 : Nat, l + (i : Int) + c.1 = l - 4 + i4 := ⟨((i : Int) + c.1 + 4).toNat, by omega⟩
            obtain ⟨j4, hj4⟩ : ∃ j4 : Nat, u + (j : Int) + c.2 = u - 4 + j4 := ⟨((j : Int) + c.2 + 4).toNat, by omega⟩
            refine ⟨_, _, rfl, SqT.of (sH _ _ hb), rfl, _, _, rfl, _, _, rfl, rfl, rfl, ?_⟩
            refine ⟨_, rfl, ap, dxa, _, rfl, sH _ _ hap, rfl, _, rfl, _, rfl, _, _, rfl, rfl, _, rfl, _, rfl, _, _, rfl, rfl, _, rfl, rfl, rfl, ap, np, wd + 8, hg + 8, _, i4, j4, p, ?_, pa.mono (Kp.of sH), oka, by omega, by omega, lp, fun G5 s5 => ?_⟩
            · show [V.ref ap, .int (l + (i : Int) + c.1), .int (u + (j : Int) + c.2), .int p] = [V.ref ap, .int (l - 4 + (i4 : Int)), .int (u - 4 + (j4 : Int)), .int p]
              rw [hi4, hj4]
            · refine k4 _ _ (z.trans s5) (s5 _ _ ee) (TupS.of s5) ⟨c, by rw [← hc]; simp [li2], ?_⟩
              rw [pget_of _ _ _ lp (by omega) (by omega), hi4, hj4]
          · have eacc : acc = (f.map fun c => ev e "t" (l + (i : Int) + c.1) (u + (j : Int) + c.2) p).map V.int := by
              apply List.ext_getElem?
              intro i2
              by_cases hi2 : i2 < acc.length
              · have e1 : acc[i2]? = some acc[i2] := by simp [hi2]
                obtain ⟨c, e2, e3⟩ := ho i2 _ e1
                rw [e1, e3, List.getElem?_map, List.getElem?_map, e2]
                rfl
              · rw [List.getElem?_eq_none (by omega), List.getElem?_eq_none (by simp; simp at el; omega)]
            subst eacc
            have sH := sG3.trans z
            refine ⟨_, rfl, fp, dxf, _, rfl, sH _ _ hfp, rfl, _, rfl, _, rfl, _, rfl, rfl, rfl, fp, np, wd, hg, _, i, j, p, rfl, pf3.mono (Kp.of sH), okf, li, lj, lp, fun G5 s5 => ?_⟩
            refine ⟨_, rfl, D, _, rfl, Or.inl (SqL.of (s5 _ _ ee)), rfl, ints_flat _, _, rfl, ?_⟩
            have ei : (if true = true then !inV (V.int (pget (planesOf (ev e nm) l u wd hg np) p j i)) ((f.map fun c => ev e "t" (l + (i : Int) + c.1) (u + (j : Int) + c.2) p).map V.int) else inV (V.int (pget (planesOf (ev e nm) l u wd hg np) p j i)) ((f.map fun c => ev e "t" (l + (i : Int) + c.1) (u + (j : Int) + c.2) p).map V.int)) = false := by
              rw [inV_int, pget_of _ _ _ lp lj li, ev_eq O.parts h2 hs, if_pos rfl]
              have m : tellV (.rnk "t" f r) (partG (.rnk "t" f r) (ev e)) (l + (i : Int)) (u + (j : Int)) p ∈ f.map fun c => ev e "t" (l + (i : Int) + c.1) (u + (j : Int) + c.2) p := rnk_mem (by simpa using Orr)
              rw [decide_eq_true m]
              rfl
            refine if_Bf ei (k3 _ _ ⟨sH.trans s5, _, _, rfl⟩)
        · obtain ⟨sG3, o12, o13, rfl⟩ := jj
          exact k2 _ _ ⟨sG3, _, _, _, rfl⟩
      · obtain ⟨sG2, o11, o12, o13, rfl⟩ := jj
        exact k _ _ ⟨sG2, _, _, _, _, rfl⟩
    · exact ends G j.1
end
end K22
end
section
/-! ### the plain law: ranks through tables, least ones of least ones -/
namespace K22
open PySem PySem.Spec PyProof.Rows L2
theorem rnk_get {l : List Int} {r : Nat} (h : r < l.length) : (l.mergeSort (fun a b => decide (a ≤ b)))[r]? = some (rnk l r) :=
  rnk_of (List.mergeSort_perm l _) (srt_sorted l) h
theorem rnk_mono {T : Int → Int} {l : List Int} {r : Nat} (h : ∀ a ∈ l, ∀ b ∈ l, a ≤ b → T a ≤ T b) (hr : r < l.length) : T (rnk l r) = rnk (l.map T) r := by
  have p := List.mergeSort_perm l (fun a b => decide (a ≤ b))
  have s := srt_sorted l
  have g := rnk_get hr
  generalize l.mergeSort (fun a b => decide (a ≤ b)) = m at p s g
  have s2 : (m.map T).Pairwise (· ≤ ·) := by
    rw [List.pairwise_map]
    exact s.imp_of_mem fun ha hb le => h _ (p.mem_iff.mp ha) _ (p.mem_iff.mp hb) le
  have e := rnk_of (r := r) (p.map T) s2 (by rw [List.length_map]; exact hr)
  rw [List.getElem?_map, g] at e
  exact Option.some.inj e
theorem rnk_anti {T : Int → Int} {l : List Int} {r : Nat} (h : ∀ a ∈ l, ∀ b ∈ l, a ≤ b → T b ≤ T a) (hr : r < l.length) : T (rnk l r) = rnk (l.map T) (l.length - 1 - r) := by
  have p := List.mergeSort_perm l (fun a b => decide (a ≤ b))
  have s := srt_sorted l
  have g := rnk_get hr
  generalize l.mergeSort (fun a b => decide (a ≤ b)) = m at p s g
  have s2 : (m.map T).reverse.Pairwise (· ≤ ·) := by
    rw [List.pairwise_reverse, List.pairwise_map]
    exact s.imp_of_mem fun ha hb le => h _ (p.mem_iff.mp ha) _ (p.mem_iff.mp hb) le
  have lm := p.length_eq
  have e := rnk_of (r := l.length - 1 - r) ((List.reverse_perm _).trans (p.map T)) s2 (by rw [List.length_map]; omega)
  rw [List.getElem?_reverse (by rw [List.length_map]; omega), List.length_map, lm, show l.length - 1 - (l.length - 1 - r) = r by omega, List.getElem?_map, g] at e
  exact Option.some.inj e
theorem rnk_least {l : List Int} {m : Int} (hm : m ∈ l) (h : ∀ x ∈ l, m ≤ x) : rnk l 0 = m := by
  have pos : 0 < l.length := List.length_pos_of_mem hm
  have p := List.mergeSort_perm l (fun a b => decide (a ≤ b))
  have s := srt_sorted l
  have g := rnk_get pos
  generalize l.mergeSort (fun a b => decide (a ≤ b)) = k at p s g
  have hk := p.mem_iff.mpr hm
  cases k with
  | nil => cases hk
  | cons a k =>
    have ea : a = rnk l 0 := Option.some.inj g
    rw [← ea]
    have h1 := h a (p.mem_iff.mp List.mem_cons_self)
    rcases List.mem_cons.mp hk with z | z
    · exact z.symm
    · have h2 := (List.pairwise_cons.mp s).1 m z
      omega
theorem rnk_le {l : List Int} : ∀ x ∈ l, rnk l 0 ≤ x := by
  intro x hx
  have pos : 0 < l.length := List.length_pos_of_mem hx
  have p := List.mergeSort_perm l (fun a b => decide (a ≤ b))
  have s := srt_sorted l
  have g := rnk_get pos
  generalize l.mergeSort (fun a b => decide (a ≤ b)) = k at p s g
  have hk := p.mem_iff.mpr hx
  cases k with
  | nil => cases hk
  | cons a k =>
    have ea : a = rnk l 0 := Option.some.inj g
    rw [← ea]
    rcases List.mem_cons.mp hk with z | z
    · rw [z]; exact Int.le_refl _
    · exact (List.pairwise_cons.mp s).1 x z
theorem rnk_in0 {l : List Int} (h : l ≠ []) : rnk l 0 ∈ l := rnk_mem (List.length_pos_iff.mpr h)
/-- the least of the least -/
theorem least_two {A : Int → Int → Int} {x y : Int} {fm sc both : List (Int × Int)} (hf : fm ≠ []) (hs : sc ≠ []) (hb : ∀ b, b ∈ both ↔ ∃ c ∈ fm, ∃ s ∈ sc, b = (c.1 + s.1, c.2 + s.2)) :
    rnk (sc.map fun s => rnk (fm.map fun c => A (x + s.1 + c.1) (y + s.2 + c.2)) 0) 0 = rnk (both.map fun b => A (x + b.1) (y + b.2)) 0 := by
  have nb : both ≠ [] := by
    intro z
    obtain ⟨c, hc⟩ := List.exists_mem_of_ne_nil _ hf
    obtain ⟨s, hsm⟩ := List.exists_mem_of_ne_nil _ hs
    have := (hb (c.1 + s.1, c.2 + s.2)).mpr ⟨c, hc, s, hsm, rfl⟩
    rw [z] at this
    cases this
  have mem := rnk_in0 (l := both.map fun b => A (x + b.1) (y + b.2)) (by simpa using nb)
  have low := rnk_le (l := both.map fun b => A (x + b.1) (y + b.2))
  generalize rnk (both.map fun b => A (x + b.1) (y + b.2)) 0 = m at mem low
  have sum : ∀ c ∈ fm, ∀ s ∈ sc, m ≤ A (x + s.1 + c.1) (y + s.2 + c.2) := by
    intro c hc s hs
    have z := low _ (List.mem_map.mpr ⟨(c.1 + s.1, c.2 + s.2), (hb _).mpr ⟨c, hc, s, hs, rfl⟩, rfl⟩)
    rw [show x + s.1 + c.1 = x + (c.1 + s.1) by omega, show y + s.2 + c.2 = y + (c.2 + s.2) by omega]
    exact z
  have inner : ∀ s ∈ sc, m ≤ rnk (fm.map fun c => A (x + s.1 + c.1) (y + s.2 + c.2)) 0 := by
    intro s hs
    obtain ⟨c, hc, e⟩ := List.mem_map.mp (rnk_in0 (l := fm.map fun c => A (x + s.1 + c.1) (y + s.2 + c.2)) (by simpa using hf))
    rw [← e]
    exact sum c hc s hs
  refine rnk_least ?_ fun z hz => ?_
  · obtain ⟨b, hbm, e⟩ := List.mem_map.mp mem
    obtain ⟨c, hc, s, hsm, rfl⟩ := (hb b).mp hbm
    refine List.mem_map.mpr ⟨s, hsm, ?_⟩
    have h1 := inner s hsm
    have h2 := rnk_le (l := fm.map fun c => A (x + s.1 + c.1) (y + s.2 + c.2)) _ (List.mem_map.mpr ⟨c, hc, rfl⟩)
    have e2 : A (x + s.1 + c.1) (y + s.2 + c.2) = m := by
      rw [← e]
      rw [show x + s.1 + c.1 = x + (c.1 + s.1) by omega, show y + s.2 + c.2 = y + (c.2 + s.2) by omega]
    omega
  · obtain ⟨s, hs, rfl⟩ := List.mem_map.mp hz
    exact inner s hs
/-! over nets -/
section
variable {np dp : Nat} {lv : Str → Nat} {e : Nt} {ts : List Int} {f sc both : List (Int × Int)} {r r' p : Nat} {x y : Int}
def tabT (ts : List Int) : Int → Int := fun v => ts.getD v.toNat 0
theorem tab_le {a b : Int} (h : ts.Pairwise (· ≤ ·)) (a0 : 0 ≤ a) (ab : a ≤ b) (hb : b < ts.length) : tabT ts a ≤ tabT ts b := by
  unfold tabT
  have lb : b.toNat < ts.length := by omega
  have la : a.toNat < ts.length := by omega
  rw [List.getD_eq_getElem?_getD, List.getD_eq_getElem?_getD, List.getElem?_eq_getElem la, List.getElem?_eq_getElem lb]
  show ts[a.toNat] ≤ ts[b.toNat]
  by_cases c : a.toNat = b.toNat
  · simp [c]
  · exact List.pairwise_iff_getElem.mp h _ _ la lb (by omega)
theorem tab_ge {a b : Int} (h : ts.Pairwise (fun u v => v ≤ u)) (a0 : 0 ≤ a) (ab : a ≤ b) (hb : b < ts.length) : tabT ts b ≤ tabT ts a := by
  unfold tabT
  have lb : b.toNat < ts.length := by omega
  have la : a.toNat < ts.length := by omega
  rw [List.getD_eq_getElem?_getD, List.getD_eq_getElem?_getD, List.getElem?_eq_getElem la, List.getElem?_eq_getElem lb]
  show ts[b.toNat] ≤ ts[a.toNat]
  by_cases c : a.toNat = b.toNat
  · simp [c]
  · exact List.pairwise_iff_getElem.mp h _ _ la lb (by omega)
theorem law_tab (O : OkNt np dp lv e) (h2 : ∀ nm, lv nm ≤ 2) (hc : stg? e "c" = some (.crv "b" ts)) (hb : stg? e "b" = some (.rnk "a" f r)) (ht : stg? e "t" = some (.crv "a" ts)) (hd : stg? e "d" = some (.rnk "t" f r'))
    (h : (ts.Pairwise (· ≤ ·) ∧ r' = r) ∨ (ts.Pairwise (fun u v => v ≤ u) ∧ r' = f.length - 1 - r)) (hp : p < np) : ev e "c" x y p = ev e "d" x y p := by
  have hr : r < f.length := (O.stg _ _ hb).2.2
  have hl := (O.stg _ _ hc).2.len
  have ha := (O.parts "b" _ hb "a" (List.mem_singleton.mpr rfl)).1
  rw [ev_eq O.parts h2 hc, ev_eq O.parts h2 hd]
  show tabT ts (ev e "b" x y p) = rnk (f.map fun d => ev e "t" (x + d.1) (y + d.2) p) r'
  rw [ev_eq O.parts h2 hb, ev_eq O.parts h2 ht]
  show tabT ts (rnk (f.map fun d => ev e "a" (x + d.1) (y + d.2) p) r) = rnk (f.map fun d => tabT ts (ev e "a" (x + d.1) (y + d.2) p)) r'
  have em : (f.map fun d => tabT ts (ev e "a" (x + d.1) (y + d.2) p)) = (f.map fun d => ev e "a" (x + d.1) (y + d.2) p).map (tabT ts) := by
    rw [List.map_map]
    rfl
  rw [em]
  have rg : ∀ a ∈ (f.map fun d => ev e "a" (x + d.1) (y + d.2) p), 0 ≤ a ∧ a ≤ dp := by
    intro a h
    obtain ⟨d, _, rfl⟩ := List.mem_map.mp h
    exact ev_rng O h2 ha _ _ hp
  have hr2 : r < (f.map fun d => ev e "a" (x + d.1) (y + d.2) p).length := by rw [List.length_map]; exact hr
  rcases h with ⟨hs, rfl⟩ | ⟨hs, rfl⟩
  · exact rnk_mono (fun a ha b hb le => tab_le hs (rg a ha).1 le (by have := (rg b hb).2; omega)) hr2
  · have z := rnk_anti (T := tabT ts) (fun a ha b hb le => tab_ge hs (rg a ha).1 le (by have := (rg b hb).2; omega)) hr2
    rw [List.length_map] at z
    exact z
theorem law_least (O : OkNt np dp lv e) (h2 : ∀ nm, lv nm ≤ 2) (he : stg? e "e" = some (.rnk "a" f 0)) (hf : stg? e "f" = some (.rnk "e" sc 0)) (hg : stg? e "g" = some (.rnk "a" both 0)) (hb : ∀ b, b ∈ both ↔ ∃ c ∈ f, ∃ s ∈ sc, b = (c.1 + s.1, c.2 + s.2)) : ev e "f" x y p = ev e "g" x y p := by
  have nf : f ≠ [] := fun z => by have := (O.stg _ _ he).2.1.n1; rw [z] at this; exact absurd this (by decide)
  have ns : sc ≠ [] := fun z => by have := (O.stg _ _ hf).2.1.n1; rw [z] at this; exact absurd this (by decide)
  rw [ev_eq O.parts h2 hf, ev_eq O.parts h2 hg]
  show rnk (sc.map fun d => ev e "e" (x + d.1) (y + d.2) p) 0 = rnk (both.map fun d => ev e "a" (x + d.1) (y + d.2) p) 0
  rw [ev_eq O.parts h2 he]
  exact least_two (A := fun x y => ev e "a" x y p) nf ns hb
end
end K22
end
section
/-! ### the law -/
namespace K22
open PySem PySem.Spec PyProof.Rows L2 LamX NdefX
theorem tabsN_but {T : List NTab} {H H' : Hp} {a : Addr} {u : HO} (h : TabsN T H) (e : H a = some u) (n1 : ∀ ps, u ≠ .tbl ps) (n2 : ∀ c q, u ≠ CodeO c q) (fr : ∀ b o, b ≠ a → H b = some o → H' b = some o) : TabsN T H' := by
  intro p hp
  obtain ⟨ps, h1, h2, h3⟩ := h p hp
  refine ⟨ps, fr _ _ (ne_of h1 e fun z => n1 ps z.symm) h1, h2, fun pos cv hc => ?_⟩
  obtain ⟨c, e1, e2⟩ := h3 pos cv hc
  exact ⟨c, e1, fr _ _ (ne_of e2 e fun z => n2 _ _ z.symm) e2⟩
theorem codeO_nins {c : Addr} {o : Str} {a b : Addr} {fs} : CodeO c o ≠ .ins a b fs := fun z => by unfold CodeO at z; cases z
theorem PenAt.ext {H H' : Hp} {pen cs : Addr} {n : Nat} (h : PenAt H pen cs n) (s : ExtN H H') : PenAt H' pen cs n := by
  obtain ⟨ms, a, r, h1, h2, h3⟩ := h.ex
  exact ⟨ms, a, r, s _ _ h1 (fun ps z => by cases z), s _ _ h2 (fun ps z => by cases z), h3⟩
theorem Xp.tabs {T : List NTab} {H H' : Hp} {pen cs : Addr} {n : Nat} (x : Xp pen H H') (h : PenAt H pen cs n) (t : TabsN T H) : TabsN T H' := by
  obtain ⟨ms, a, r, h1, _⟩ := h.ex
  exact tabsN_but t h1 (fun ps z => by cases z) (fun c q z => codeO_nlst z.symm) x
structure LS (K : PySem.W.Frag) (H : Hp) (pen cs net : Addr) (n : Nat) (e : Nt) (np dp : Nat) : Prop where
  pen : PenAt H pen cs n
  net : NetAt K H net e np dp
  tb : TabsN (Tb K) H
section
variable {K : PySem.W.Frag} {H H' : Hp} {pen cs net : Addr} {n n' : Nat} {e e' : Nt} {np dp : Nat}
theorem NetAt.kp (h : NetAt K H net e np dp) (k : Kp K H H') (s : ∀ o, H net = some o → H' net = some o) : NetAt K H' net e np dp := by
  obtain ⟨dx, sd, hd, h1, h2, h3⟩ := h.ex
  exact ⟨dx, sd, hd, s _ h1, h2.mono k, h3.mono k⟩
theorem LS.xp (h : LS K H pen cs net n e np dp) (x : Xp pen H H') (p : PenAt H' pen cs n') : LS K H' pen cs net n' e np dp ∧ Kp K H H' := by
  have k : Kp K H H' := x.kp h.pen
  obtain ⟨dx, sd, hd, h1, _⟩ := h.net.ex
  obtain ⟨ms, a, r, h2, _⟩ := h.pen.ex
  exact ⟨⟨p, h.net.kp k fun o z => x _ _ (ne_of h1 h2 (by intro y; cases y)) z, x.tabs h.pen h.tb⟩, k⟩
theorem LS.same (h : LS K H pen cs net n e np dp) (s : Same H H') : LS K H' pen cs net n e np dp :=
  ⟨h.pen.same s, h.net.kp (Kp.of s) fun o z => s _ _ z, tabsN_same h.tb s⟩
theorem LS.ext (h : LS K H pen cs net n e np dp) (s : ExtN H H') (t : TabsN (Tb K) H') : LS K H' pen cs net n e np dp := by
  obtain ⟨dx, sd, hd, h1, h2, h3⟩ := h.net.ex
  exact ⟨h.pen.ext s, ⟨dx, sd, hd, s _ _ h1 (fun ps z => by cases z), h2.mono (Kp.ext s), h3.mono (K := K) (Kp.ext s)⟩, t⟩
theorem LS.put (h : LS K H pen cs net n e np dp) (fr : ∀ b o, b ≠ net → H b = some o → H' b = some o) (N : NetAt K H' net e' np dp) : LS K H' pen cs net n e' np dp ∧ Kp K H H' := by
  obtain ⟨dx, sd, hd, h1, _⟩ := h.net.ex
  obtain ⟨ms, a, r, h2, h3, h4⟩ := h.pen.ex
  refine ⟨⟨⟨ms, a, r, fr _ _ (ne_of h2 h1 (by intro y; cases y)) h2, fr _ _ (ne_of h3 h1 (by intro y; cases y)) h3, h4⟩, N, tabsN_but h.tb h1 (fun ps z => by cases z) (fun c q z => codeO_nins z.symm) fr⟩, fun b o eb fz => ?_⟩
  exact fr b o (ne_of eb h1 fun z => by subst z; exact absurd (show 2 = 4 from fz) (by decide)) eb
end
/-! the names -/
def lvF (nm : Str) : Nat := if nm = "a" then 0 else if nm = "b" ∨ nm = "t" ∨ nm = "e" ∨ nm = "g" then 1 else 2
theorem lvF_le (nm : Str) : lvF nm ≤ 2 := by
  unfold lvF
  split
  · omega
  · split <;> omega
theorem ok_names : OkName "a" ∧ OkName "b" ∧ OkName "c" ∧ OkName "d" ∧ OkName "e" ∧ OkName "f" ∧ OkName "g" ∧ OkName "t" := by
  unfold OkName
  decide +kernel
theorem stg_hit {e : Nt} {k : Str} {st : Stg} : stg? (putE e k st) k = some st := by rw [stg_put, if_pos rfl]
theorem stg_miss {e : Nt} {k j : Str} {st : Stg} {o : Option Stg} (h : j ≠ k) (q : stg? e j = o) : stg? (putE e k st) j = o := by rw [stg_put, if_neg h]; exact q
theorem putE_len2 (e : Nt) (nm : Str) (st : Stg) : (putE e nm st).length ≤ e.length + 1 := by
  unfold putE
  split
  · rw [List.length_map]; omega
  · simp
theorem okNt_put {np dp : Nat} {lv : Str → Nat} {e : Nt} {nm : Str} {st : Stg} (O : OkNt np dp lv e) (okn : OkName nm) (oks : OkStg np dp st) (hp : ∀ p ∈ st.parts, p ∈ nms e ∧ lv p < lv nm) (hl : e.length ≤ 23) : OkNt np dp lv (putE e nm st) := by
  have sub : ∀ p, p ∈ nms e → p ∈ nms (putE e nm st) := fun p h => by
    rw [nms_put]
    split
    · exact h
    · exact List.mem_append_left _ h
  refine ⟨fun j s hs p hps => ?_, fun j hj => ?_, by have := putE_len2 e nm st; omega, fun j s hs => ?_⟩
  · rw [stg_put] at hs
    split at hs
    · rename_i ej
      cases hs
      subst ej
      exact ⟨sub _ (hp p hps).1, (hp p hps).2⟩
    · have := O.parts j s hs p hps
      exact ⟨sub _ this.1, this.2⟩
  · rw [nms_put] at hj
    split at hj
    · exact O.names j hj
    · rcases List.mem_append.mp hj with z | z
      · exact O.names j z
      · rw [List.mem_singleton.mp z]; exact okn
  · rw [stg_put] at hs
    split at hs
    · cases hs; exact oks
    · exact O.stg j s hs
theorem okNt_nil {np dp : Nat} {lv : Str → Nat} : OkNt np dp lv [] := ⟨fun j s hs => (by cases hs), fun j hj => (by cases hj), (by simp), fun j s hs => (by cases hs)⟩
def BothAt (G : Hp) (bl : Addr) (both : List (Int × Int)) : Prop := ∃ as2 : List Addr, G bl = some (.lst (as2.map V.ref)) ∧ as2.length = both.length ∧ ∀ (i : Nat) c, both[i]? = some c → ∃ b, as2[i]? = some b ∧ PlaceAt G b c
structure InR (b : Int × Int) : Prop where
  r1 : -5 < b.1
  r2 : b.1 < 5
  r3 : -5 < b.2
  r4 : b.2 < 5
structure BothOk (fm sc both : List (Int × Int)) : Prop where
  nd : both.Nodup
  of : ∀ b ∈ both, InR b ∧ ∃ c ∈ fm, ∃ s ∈ sc, b = (c.1 + s.1, c.2 + s.2)
theorem BothAt.same {G G' : Hp} {bl : Addr} {both : List (Int × Int)} (h : BothAt G bl both) (s : Same G G') : BothAt G' bl both := by
  obtain ⟨as2, h1, h2, h3⟩ := h
  refine ⟨as2, s _ _ h1, h2, fun i c e => ?_⟩
  obtain ⟨b, e1, e2⟩ := h3 i c e
  exact ⟨b, e1, s _ _ e2⟩
theorem BothAt.snoc {G : Hp} {bl pb : Addr} {both : List (Int × Int)} {as3 : List Addr} {c : Int × Int} (_h : BothAt G bl both) (eb : G bl = some (.lst (as3.map V.ref))) (l : as3.length = both.length) (m : ∀ (i : Nat) c, both[i]? = some c → ∃ b, as3[i]? = some b ∧ PlaceAt G b c) (hp : PlaceAt G pb c)
    (ts : TupS G (upd G bl (.lst (as3.map V.ref ++ [V.ref pb])))) : BothAt (upd G bl (.lst (as3.map V.ref ++ [V.ref pb]))) bl (both ++ [c]) := by
  refine ⟨as3 ++ [pb], by rw [upd_same, List.map_append]; rfl, by simp [l], fun i2 c2 e => ?_⟩
  by_cases c1 : i2 < both.length
  · rw [List.getElem?_append_left c1] at e
    obtain ⟨b2, e1, e2⟩ := m i2 c2 e
    exact ⟨b2, by rw [List.getElem?_append_left (by omega)]; exact e1, ts _ _ e2⟩
  · have e0 : i2 = both.length := by
      have := (List.getElem?_eq_some_iff.mp e).1
      simp at this
      omega
    subst e0
    rw [List.getElem?_append_right (Nat.le_refl _)] at e
    simp at e
    subst e
    exact ⟨pb, by rw [List.getElem?_append_right (by omega)]; simp [l], ts _ _ hp⟩
theorem BothOk.snoc {fm sc both : List (Int × Int)} {d c : Int × Int} (h : BothOk fm sc both) (n : (d.1 + c.1, d.2 + c.2) ∉ both) (r : InR (d.1 + c.1, d.2 + c.2)) (hd : d ∈ fm) (hc : c ∈ sc) : BothOk fm sc (both ++ [(d.1 + c.1, d.2 + c.2)]) := by
  refine ⟨?_, fun b hb => ?_⟩
  · rw [List.nodup_append]
    refine ⟨h.nd, by simp, fun x hx y hy e => ?_⟩
    rw [List.mem_singleton.mp hy] at e
    rw [e] at hx
    exact n hx
  · rcases List.mem_append.mp hb with z | z
    · exact h.of b z
    · rw [List.mem_singleton.mp z]; exact ⟨r, d, hd, c, hc, rfl⟩
structure SmP (c : Int × Int) : Prop where
  r1 : -2 ≤ c.1
  r2 : c.1 ≤ 2
  r3 : -2 ≤ c.2
  r4 : c.2 ≤ 2
theorem ints_shaped (ns : List Int) : SeqAt.shaped (.list (ns.map PyData.int)) = true := by
  unfold SeqAt.shaped
  rw [Bool.and_eq_true]
  refine ⟨by simp only [PyData.canLay0]; exact lay_all int_lay ns, decide_eq_true ?_⟩
  have := depth_all (f := PyData.int) (n := 0) (fun i => by simp [PyData.depth]) ns
  simp only [PyData.depth]
  omega
theorem ints_eqv_nil (ns : List Int) : PyData.eqv (.list (ns.map PyData.int)) (.list []) = decide (ns = []) := by
  cases ns with
  | nil => simp [PyData.eqv, PyData.eqvAll]
  | cons x r => simp [PyData.eqv, PyData.eqvAll]
theorem ints_of {acc : List V} {dp : Nat} (ho : ∀ (i : Nat) y, acc[i]? = some y → ∃ z : Int, y = .int z ∧ 0 ≤ z ∧ z ≤ dp) : ∃ ws : List Int, acc = ws.map V.int ∧ ∀ z ∈ ws, 0 ≤ z ∧ z ≤ (dp : Int) := by
  induction acc with
  | nil => exact ⟨[], rfl, fun z h => (by cases h)⟩
  | cons y acc ih =>
    obtain ⟨ws, e, h⟩ := ih fun i y' e => ho (i + 1) y' e
    obtain ⟨z, rfl, z1, z2⟩ := ho 0 y rfl
    refine ⟨z :: ws, by rw [e]; rfl, fun a ha => ?_⟩
    rcases List.mem_cons.mp ha with rfl | ha
    · exact ⟨z1, z2⟩
    · exact h a ha
theorem planesOf_congr {g g' : Int → Int → Nat → Int} {l u : Int} {wd hg np : Nat} (h : ∀ x y p, p < np → g x y p = g' x y p) : planesOf g l u wd hg np = planesOf g' l u wd hg np := by
  unfold planesOf planeOf rowOf
  refine List.map_congr_left fun k hk => List.map_congr_left fun j _ => List.map_congr_left fun i _ => h _ _ _ (List.mem_range.mp hk)
section
variable {P : Program} {w : World} {K : PySem.W.Frag} {mg : Str → Option Value} {base : Heap}
def spLaw (K : PySem.W.Frag) : Sp := fun vs H Q _ => ∃ a, ∃ ns : List Int, vs = [.ref a] ∧ SqL K H a (ns.map V.int) ∧ TabsN (Tb K) H ∧ ∀ H', Q (.bl true) H'
theorem sc_law : FnScope ["_law_script", "_law_pen_here", "_law_k", "_law_planes_here", "_law_deep", "_law_net", "_law_form_here", "_law_window_here", "_law_spot", "_law_table", "_law_some", "_law_other", "_law_second", "_law_both", "_law_dx", "_law_dy", "_law_place", "_law_far", "_law_u", "_law_v", "_law_j"] ["_law_script"] (defScope s_law) := ⟨rfl, rfl, rfl, by decide +kernel, rfl, by decide +kernel, by decide +kernel⟩
theorem fn_of {x : Str} {st : Stmt} {fd : FuncData} {N ps : List Str} {k : Nat} {sp : Sp} (F : FunD K x x (defArgs st) (defBody st) (defScope st) [] [] (He.ga K x) fd) (S : FnScope N ps (defScope st))
    (len : ∀ vs H Q E, sp vs H Q E → vs.length = ps.length)
    (hbody : ∀ (cdv : Value) (A : Around) (outer : List Env) (s : Shared) (H : Hp) (vs : List V) (Q : VK) (E : XK), Room k (A.deeper (envOfC x (defScope st) s.heap.objs.size (He.ga K x) cdv)) → sp vs H Q E →
      ∃ t, PSs (cxOf CX0 P w K mg base N x (defScope st) (He.ga K x) cdv A outer s H E).nox (defBody st) t ∧ t { nx := fun _ H' => Q .non H', rt := Q } (start N vs) H) : FnOk P w K mg base CX0 (k + 1) (He.ga K x) fd ps sp := F.ok S len fun cdv A outer s H vs Q E hr h => by
  obtain ⟨t, h1, h2⟩ := hbody cdv A outer s H vs Q E hr h
  exact ⟨t, h1.nox, h2⟩
theorem ok_law {fd : FuncData} (F : FunD K "law" "law" (defArgs s_law) (defBody s_law) (defScope s_law) [] [] (He.ga K "law") fd) (T : Fx K mg w) (TBn : TabB base mg (He.cT K ("numbers_at", none)).1 (He.cT K ("numbers_at", none)).2) (TB : TabB base mg (He.cT K ("Net", some "whole")).1 (He.cT K ("Net", some "whole")).2) : FnOk P w K mg base CX0 24 (He.ga K "law") fd ["_law_script"] (spLaw K) := by
  have c_law_pen : Cal P w K mg base 1 "_law_pen" (spPen K) [] := ok_law_pen T
  have c_law_draw : Cal P w K mg base 1 "_law_draw" spDraw [] := ok_law_draw T
  have c_law_picture : Cal P w K mg base 8 "_law_picture" (spLPic K) [] := ok_law_picture T
  have c_law_border : Cal P w K mg base 2 "_law_border" spLB [] := ok_law_border T
  have c_law_form : Cal P w K mg base 2 "_law_form" spLF [] := ok_law_form T
  have c_law_window : Cal P w K mg base 2 "_law_window" spLW [] := ok_law_window T
  have c_law_sorted_table : Cal P w K mg base 2 "_law_sorted_table" spLT [] := ok_law_sorted_table T
  have c_law_within : Cal P w K mg base 22 "_law_within" (spWithin K) [] := ok_law_within T TBn TB
  have c_whole : Met P w K mg base 21 (He.ga K "Net") "whole" (spWholeN K) := ok_whole T TBn TB
  have c_put : Met P w K mg base 9 (He.ga K "Net") "put" (spPut K) := ok_put T
  have c_source_border := ok_source (P := P) (base := base) T
  have c_curved := ok_curved (P := P) (base := base) T
  have c_ranked := ok_ranked (P := P) (base := base) T
  have c_ranked_rank := ok_ranked_rank (P := P) (base := base) T
  have mk_Net := mk_net (P := P) (base := base) T
  obtain ⟨fe, fde, pse, _, Me, Feq, Be⟩ := (ok_eq (P := P) (base := base) T).ex
  refine fn_of F sc_law (fun vs H Q E h => ?_) (fun cdv A outer s H vs Q E hr h => ?_)
  · obtain ⟨a, ns, rfl, _⟩ := h
    rfl
  · have hu := hu_of hr
    have hu65 : (A.deeper (envOfC "law" (defScope s_law) s.heap.objs.size (He.ga K "law") cdv)).units + 65 < cLine := by have := hr.un; omega
    refine ⟨_, (pss_cons (ps_set (i := 1) sc_law.nd rfl (Or.inr rfl) (pe_c c_law_pen hr (by omega) rfl (pa_cons (pv 0) pa_nil)))
      (pss_cons (ps_for PassesOwn.never rfl (pi_range1 (by rfl) T.f_range (pa_cons (pe_op op_add pe_int (pe_c c_law_draw hr (by omega) rfl (pa_cons (pv 1) (pa_cons pe_int pa_nil)))) pa_nil)) (pg_name (i := 2) sc_law.nd rfl (Or.inl rfl)) (pss_cons (ps_asg (pe_tup (pa_cons (pe_op op_add pe_int (pe_c c_law_draw hr (by omega) rfl (pa_cons (pv 1) (pa_cons pe_int pa_nil)))) (pa_cons (pe_ix (ix_listK (K := K) rfl) (pe_lst (pa_cons pe_int (pa_cons pe_int (pa_cons pe_int pa_nil)))) (pe_c c_law_draw hr (by omega) rfl (pa_cons (pv 1) (pa_cons pe_int pa_nil))) (fun _ _ => rfl)) pa_nil))) (pg_tupK (K := K) (n := 2) rfl rfl (pgs_cons (pg_name (i := 3) sc_law.nd rfl (Or.inl rfl)) (pgs_cons (pg_name (i := 4) sc_law.nd rfl (Or.inr rfl)) pgs_nil))))
      (pss_cons (ps_set (i := 5) sc_law.nd rfl (Or.inl rfl) (pe_mk0 mk_Net hr (by omega) rfl))
      (pss_cons (ps_expr (pe_mt c_put hr (by omega) (pv 5) (pa_cons pe_str (pa_cons (pe_cN c_source_border hr (by omega) rfl (pa_cons (pe_c c_law_picture hr (by omega) rfl (pa_cons (pv 1) (pa_cons (pv 3) (pa_cons (pv 4) (pa_cons pe_int pa_nil))))) pa_nil) (pk_cons (pe_c c_law_border hr (by omega) rfl (pa_cons (pv 1) (pa_cons (pv 4) pa_nil))) pk_nil)) pa_nil))))
      (pss_cons (ps_par (i := 6) (j := 7) rfl sc_law.nd rfl rfl (by decide) rfl rfl (pa_cons (pe_c c_law_form hr (by omega) rfl (pa_cons (pv 1) (pa_cons pe_int pa_nil))) (pa_cons (pe_c c_law_window hr (by omega) rfl (pa_cons (pv 1) (pa_cons pe_int (pa_cons pe_int pa_nil)))) pa_nil)) (by rfl))
      (pss_cons (ps_set (i := 8) sc_law.nd rfl (Or.inl rfl) (pe_c c_law_draw hr (by omega) rfl (pa_cons (pv 1) (pa_cons (pe_callB (id := "len") (cr_lenK (K := K) rfl) (by rfl) T.f_len (by decide +kernel) (pa_cons (pv 6) pa_nil)) pa_nil))))
      (pss_cons (ps_expr (pe_mt c_put hr (by omega) (pv 5) (pa_cons pe_str (pa_cons (pe_cN c_ranked_rank hr (by omega) rfl (pa_cons pe_str (pa_cons (pv 6) pa_nil)) (pk_cons (pv 8) pk_nil)) pa_nil))))
      (pss_cons (ps_set (i := 9) sc_law.nd rfl (Or.inl rfl) (pe_c c_law_sorted_table hr (by omega) rfl (pa_cons (pv 1) (pa_cons (pv 4) pa_nil))))
      (pss_cons (ps_for PassesOwn.never rfl (pi_listK (K := K) rfl (pe_lst (pa_cons (pe_tup (pa_cons (pv 9) (pa_cons (pv 8) pa_nil))) (pa_cons (pe_tup (pa_cons (pe_revT (pv 9)) (pa_cons (pe_op op_sub (pe_op op_sub (pe_callB (id := "len") (cr_lenK (K := K) rfl) (by rfl) T.f_len (by decide +kernel) (pa_cons (pv 6) pa_nil)) pe_int) (pv 8)) pa_nil))) pa_nil)))) (pg_tupK (K := K) (n := 2) rfl rfl (pgs_cons (pg_name (i := 10) sc_law.nd rfl (Or.inl rfl)) (pgs_cons (pg_name (i := 11) sc_law.nd rfl (Or.inl rfl)) pgs_nil))) (pss_cons (ps_expr (pe_mt c_put hr (by omega) (pv 5) (pa_cons pe_str (pa_cons (pe_c c_curved hr (by omega) rfl (pa_cons pe_str (pa_cons (pv 10) pa_nil))) pa_nil))))
      (pss_cons (ps_expr (pe_mt c_put hr (by omega) (pv 5) (pa_cons pe_str (pa_cons (pe_c c_curved hr (by omega) rfl (pa_cons pe_str (pa_cons (pv 10) pa_nil))) pa_nil))))
      (pss_cons (ps_expr (pe_mt c_put hr (by omega) (pv 5) (pa_cons pe_str (pa_cons (pe_cN c_ranked_rank hr (by omega) rfl (pa_cons pe_str (pa_cons (pv 6) pa_nil)) (pk_cons (pv 11) pk_nil)) pa_nil))))
      (pss_one (ps_if (pt_cmpR (op_neOwn Feq Me.at_ Me.fn T.ne_ T.pic.hm Be (hr.mono (by omega))) (pe_mt c_whole hr (by omega) (pv 5) (pa_cons pe_str (pa_cons (pv 7) pa_nil))) (pe_mt c_whole hr (by omega) (pv 5) (pa_cons pe_str (pa_cons (pv 7) pa_nil))) (nomark _)) (pss_one (ps_ret pe_bl)) pss_nil))))))
      (pss_cons (ps_expr (pe_mt c_put hr (by omega) (pv 5) (pa_cons pe_str (pa_cons (pe_c c_curved hr (by omega) rfl (pa_cons pe_str (pa_cons (pe_callTy (call_tupleK (K := K) rfl) (by rfl) T.f_tuple (by decide +kernel) (pa_cons (pe_lc (own := [("_law_j", 20)]) rfl sc_law.nd (pi_range1 (by rfl) T.f_range (pa_cons (pe_op op_add (pv 4) pe_int) pa_nil)) (blkOk_by (N := ["_law_script", "_law_pen_here", "_law_k", "_law_planes_here", "_law_deep", "_law_net", "_law_form_here", "_law_window_here", "_law_spot", "_law_table", "_law_some", "_law_other", "_law_second", "_law_both", "_law_dx", "_law_dy", "_law_place", "_law_far", "_law_u", "_law_v", "_law_j"]) (sc := defScope s_law) (by decide +kernel)) (fun _ _ _ _ _ => (pg_name (i := 20) sc_law.nd rfl (by first | exact Or.inl rfl | exact Or.inr rfl))) (fun _ _ _ _ _ => pts_nil) (fun _ _ _ _ _ => (pe_c c_law_draw hr (by omega) rfl (pa_cons (pv 1) (pa_cons (pe_op op_add (pv 4) pe_int) pa_nil))))) pa_nil)) pa_nil))) pa_nil))))
      (pss_cons (ps_expr (pe_mt c_put hr (by omega) (pv 5) (pa_cons pe_str (pa_cons (pe_cN c_ranked_rank hr (by omega) rfl (pa_cons pe_str (pa_cons (pv 6) pa_nil)) (pk_cons (pv 8) pk_nil)) pa_nil))))
      (pss_cons (ps_if (pt_not (pt_val (pe_c c_law_within hr (by omega) rfl (pa_cons (pv 5) (pa_cons pe_str (pa_cons (pv 6) (pa_cons (pv 7) pa_nil))))))) (pss_one (ps_ret pe_bl)) pss_nil)
      (pss_cons (ps_set (i := 12) sc_law.nd rfl (Or.inl rfl) (pe_c c_law_form hr (by omega) rfl (pa_cons (pv 1) (pa_cons pe_int pa_nil))))
      (pss_cons (ps_set (i := 13) sc_law.nd rfl (Or.inl rfl) (pe_lst pa_nil))
      (pss_cons (ps_for PassesOwn.never rfl (pi_tupK (K := K) rfl (pv 6)) (pg_tupK (K := K) (n := 2) rfl rfl (pgs_cons (pg_name (i := 14) sc_law.nd rfl (Or.inr rfl)) (pgs_cons (pg_name (i := 15) sc_law.nd rfl (Or.inr rfl)) pgs_nil))) (pss_one (ps_for PassesOwn.never rfl (pi_listK (K := K) rfl (pe_lc (own := [("_law_u", 18), ("_law_v", 19)]) rfl sc_law.nd (pi_tupK (K := K) rfl (pv 12)) (blkOk_by (N := ["_law_script", "_law_pen_here", "_law_k", "_law_planes_here", "_law_deep", "_law_net", "_law_form_here", "_law_window_here", "_law_spot", "_law_table", "_law_some", "_law_other", "_law_second", "_law_both", "_law_dx", "_law_dy", "_law_place", "_law_far", "_law_u", "_law_v", "_law_j"]) (sc := defScope s_law) (by decide +kernel)) (fun _ _ _ _ _ => (pg_tupK (K := K) (n := 2) rfl rfl (pgs_cons (pg_name (i := 18) sc_law.nd rfl (by first | exact Or.inl rfl | exact Or.inr rfl)) (pgs_cons (pg_name (i := 19) sc_law.nd rfl (by first | exact Or.inl rfl | exact Or.inr rfl)) pgs_nil)))) (fun _ _ _ _ _ => pts_nil) (fun _ _ _ _ _ => (pe_tup (pa_cons (pe_op op_add (pv 14) (pv 18)) (pa_cons (pe_op op_add (pv 15) (pv 19)) pa_nil)))))) (pg_name (i := 16) sc_law.nd rfl (Or.inl rfl)) (pss_one (ps_if (PW.pt (pw_and (pt_cmpR (op_notInD hu65) (pv 16) (pv 13) (by rfl)) (pw_and (pt_cmpR op_lt (pe_callB (id := "abs") call_abs (by rfl) T.f_abs (by decide +kernel) (pa_cons (pe_ix (ix_tupK (K := K) rfl) (pv 16) pe_int (fun _ _ => rfl)) pa_nil)) pe_int (nomark _)) (pw_and1 (pt_cmpR op_lt (pe_callB (id := "abs") call_abs (by rfl) T.f_abs (by decide +kernel) (pa_cons (pe_ix (ix_tupK (K := K) rfl) (pv 16) pe_int (fun _ _ => rfl)) pa_nil)) pe_int (nomark _)))))) (pss_one (ps_expr (pe_bm PySem.F.plainAttrs_list PySem.F.slot_list_append PySem.F.type_list_append mt_append (pv 13) (pa_cons (pv 16) pa_nil)))) pss_nil)))))
      (pss_cons (ps_expr (pe_mt c_put hr (by omega) (pv 5) (pa_cons pe_str (pa_cons (pe_c c_ranked hr (by omega) rfl (pa_cons pe_str (pa_cons (pv 6) pa_nil))) pa_nil))))
      (pss_cons (ps_expr (pe_mt c_put hr (by omega) (pv 5) (pa_cons pe_str (pa_cons (pe_c c_ranked hr (by omega) rfl (pa_cons pe_str (pa_cons (pv 12) pa_nil))) pa_nil))))
      (pss_cons (ps_setLc (i := 17) (own := [("_law_dx", 14), ("_law_dy", 15)]) rfl sc_law.nd rfl rfl (sw_true rfl rfl rfl (by decide +kernel)) (pi_tupK (K := K) rfl (pe_op op_catT (pv 6) (pv 12))) (blkOk_by (N := ["_law_script", "_law_pen_here", "_law_k", "_law_planes_here", "_law_deep", "_law_net", "_law_form_here", "_law_window_here", "_law_spot", "_law_table", "_law_some", "_law_other", "_law_second", "_law_both", "_law_dx", "_law_dy", "_law_place", "_law_far", "_law_u", "_law_v", "_law_j"]) (sc := defScope s_law) (by decide +kernel)) (fun _ _ _ _ _ => (pg_tupK (K := K) (n := 2) rfl rfl (pgs_cons (pg_name (i := 14) sc_law.nd rfl (by first | exact Or.inl rfl | exact Or.inr rfl)) (pgs_cons (pg_name (i := 15) sc_law.nd rfl (by first | exact Or.inl rfl | exact Or.inr rfl)) pgs_nil)))) (fun _ _ _ _ _ => (pts_one (PW.pt (pw_or (pt_cmpR op_gt (pe_callB (id := "abs") call_abs (by rfl) T.f_abs (by decide +kernel) (pa_cons (pv 14) pa_nil)) pe_int (nomark _)) (pw_or1 (pt_cmpR op_gt (pe_callB (id := "abs") call_abs (by rfl) T.f_abs (by decide +kernel) (pa_cons (pv 15) pa_nil)) pe_int (nomark _))))))) (fun _ _ _ _ _ => pe_int))
      (pss_one (ps_if (PW.pt (pw_and (pt_cmpR (op_eqD hr.units) (pv 17) (pe_lst pa_nil) (nomark _)) (pw_and1 (pt_cmpR op_le (pe_callB (id := "len") (cr_lenK (K := K) rfl) (by rfl) T.f_len (by decide +kernel) (pa_cons (pv 13) pa_nil)) pe_int (nomark _))))) (pss_cons (ps_expr (pe_mt c_put hr (by omega) (pv 5) (pa_cons pe_str (pa_cons (pe_c c_ranked hr (by omega) rfl (pa_cons pe_str (pa_cons (pe_callTy (call_tupleK (K := K) rfl) (by rfl) T.f_tuple (by decide +kernel) (pa_cons (pv 13) pa_nil)) pa_nil))) pa_nil))))
      (pss_one (ps_if (pt_cmpR (op_neOwn Feq Me.at_ Me.fn T.ne_ T.pic.hm Be (hr.mono (by omega))) (pe_mt c_whole hr (by omega) (pv 5) (pa_cons pe_str (pa_cons (pv 7) pa_nil))) (pe_mt c_whole hr (by omega) (pv 5) (pa_cons pe_str (pa_cons (pv 7) pa_nil))) (nomark _)) (pss_one (ps_ret pe_bl)) pss_nil))) pss_nil))))))))))))))))))))
      (pss_one (ps_ret pe_bl)))), ?_⟩
    obtain ⟨a, ns, rfl, ha, hT, q⟩ := h
    refine ⟨_, rfl, a, ns, rfl, ha, fun H1 pen cs s1 hpn p1 => ?_⟩
    have T1 := tabsN_same hT s1
    refine ⟨_, rfl, pen, cs, 0, 4, rfl, by omega, by omega, p1, by omega, fun z0 H2 z00 z01 x2 p2 => ?_⟩
    have T2 := x2.tabs p1 T1
    refine ⟨_, _, rfl, rfl, 1 + z0, rfl, by omega, by omega, ?_⟩
    obtain ⟨tn, htn⟩ : ∃ tn : Nat, (1 + z0).toNat = tn := ⟨_, rfl⟩
    rw [htn]
    have tn2 : tn ≤ 4 := by omega
    refine for_any (n := tn) (fun i v => v = .int (0 + (i : Int))) (fun i σ G => ∃ o2 o3 o4 o5 o6 o7 o8 o9 o10 o11 o12 o13 o14 o15 o16 o17, σ = [some (.ref a), some (.ref pen), o2, o3, o4, o5, o6, o7, o8, o9, o10, o11, o12, o13, o14, o15, o16, o17, none, none, none] ∧ PenAt G pen cs (1 + i * 2000) ∧ TabsN (Tb K) G)
      ⟨_, _, _, _, _, _, _, _, _, _, _, _, _, _, _, _, rfl, p2, T2⟩ (fun i σ G hi _ => it_rng hi) (fun i v σ G N li ev0 j k => ?_) fun σ G j => ?_
    · obtain ⟨o2, o3, o4, o5, o6, o7, o8, o9, o10, o11, o12, o13, o14, o15, o16, o17, rfl, pn, Tn⟩ := j
      subst ev0
      have bk : 1 + (i + 1) * 2000 = 1 + i * 2000 + 2000 := by omega
      have room : 1 + i * 2000 ≤ 9000 := by omega
      rw [bk] at k
      generalize 1 + i * 2000 = n0 at pn room k
      refine ⟨_, rfl, pen, cs, n0, 3, rfl, by omega, by omega, pn, by omega, fun z1 H3 z10 z11 x3 p3 => ?_⟩
      refine ⟨_, _, rfl, rfl, (by rw [sizeLine_eq]; exact Nat.le_of_ble_eq_true rfl), fun L hL => ?_⟩
      have sL := Same.new (o := .lst [.int 1, .int 3, .int 15]) hL
      have L1 := p3.ne_none hL
      refine ⟨_, rfl, pen, cs, n0 + 1, 3, rfl, by omega, by omega, p3.same sL, by omega, fun z2 H4 z20 z21 x4 p4 => ?_⟩
      have gL : H4 L = some (.lst [.int 1, .int 3, .int 15]) := x4 _ _ L1.1 upd_same
      have T4 := x4.tabs (p3.same sL) (tabsN_same (x3.tabs pn Tn) sL)
      obtain ⟨m2, rfl⟩ : ∃ m : Nat, z2 = m := ⟨z2.toNat, by omega⟩
      obtain ⟨dp, ez, dp1, dp2⟩ : ∃ dp : Nat, ([.int 1, .int 3, .int 15] : List V)[m2]? = some (.int dp) ∧ 1 ≤ dp ∧ dp ≤ 15 := by
        match m2, z21 with
        | 0, _ => exact ⟨1, rfl, by omega, by omega⟩
        | 1, _ => exact ⟨3, rfl, by omega, by omega⟩
        | 2, _ => exact ⟨15, rfl, by omega, by omega⟩
        | m + 3, h => omega
      obtain ⟨k1, rfl⟩ : ∃ k : Nat, z1 = k := ⟨z1.toNat, by omega⟩
      refine ⟨L, _, _, .int dp, rfl, rfl, SqL.of gL, atI_nat ez, (by rw [sizeLine_eq]; exact Nat.le_of_ble_eq_true rfl), fun t ht => ?_⟩
      refine ⟨_, _, rfl, SqT.of upd_same, rfl, _, _, rfl, _, _, rfl, rfl, ?_⟩
      generalize hq : upd H4 t (HO.tup _) = H5
      have st : Same H4 H5 := by rw [← hq]; exact Same.new ht
      have p5 := p4.same st
      have T5 := tabsN_same T4 st
      refine fun net dxn hnet hdxn hne => ?_
      have s6 : Same H5 (upd (upd H5 dxn (.own net)) net (.ins (He.ga K "Net") dxn [])) := fun b o eb => by
        rw [upd_ne (ne_of_none eb hnet), upd_ne (ne_of_none eb hdxn)]
        exact eb
      refine ⟨net, dxn, rfl, upd_same, fun H6 sd hd fr6 e6 esd ehd => ⟨rfl, ?_⟩⟩
      have s7 : Same H5 H6 := fun b o eb => fr6 b o (ne_of_none eb hnet) (s6 _ _ eb)
      have L6 : LS K H6 pen cs net (n0 + 2) [] (1 + k1) dp := ⟨p5.same s7, ⟨dxn, sd, hd, e6, ⟨[], esd, .nil⟩, ⟨[], ehd, fun nm h => (by cases h)⟩⟩, tabsN_same T5 s7⟩
      refine ⟨_, rfl, net, _, _, rfl, e6, rfl, _, rfl, _, rfl, _, rfl, pen, cs, n0 + 2, 1 + k1, dp, rfl, by omega, by omega, by omega, by omega, L6.pen, by omega, fun H7 pa pic bd tl x7 p7 hpic okp edp => ?_⟩
      obtain ⟨L7, k7⟩ := L6.xp x7 p7
      refine ⟨_, rfl, _, rfl, pen, cs, n0 + 2 + 1010, dp, rfl, by omega, by omega, p7, by omega, fun H8 b x8 p8 okb => ?_⟩
      obtain ⟨L8, k8⟩ := L7.xp x8 p8
      refine ⟨rfl, rfl, _, _, rfl, fun ta hta => ?_⟩
      have s9 := Same.new (o := .tup [.str "source", .ref pa, b]) hta
      have L9 := L8.same s9
      have okA : OkStg (1 + k1) dp (.src pic b bd tl) := ⟨okp, edp, okb⟩
      have O1 : OkNt (1 + k1) dp lvF (putE [] "a" (.src pic b bd tl)) := okNt_put okNt_nil ok_names.1 okA (fun p h => (by cases h)) (by simp)
      refine ⟨net, "a", ta, lvF, 1 + k1, dp, .src pic b bd tl, [], rfl, by omega, L9.net, ⟨⟨pa, upd_same, (hpic.mono k8).mono (Kp.of s9)⟩⟩, ok_names.1, okA, O1, fun H10 fr10 N10 => ?_⟩
      obtain ⟨L10, k10⟩ := L9.put fr10 N10
      refine ⟨_, rfl, pen, cs, n0 + 2 + 1010 + 2, 9, rfl, by omega, by omega, L10.pen, by omega, fun H11 fa fm x11 p11 hfm okf lfm => ?_⟩
      obtain ⟨L11, k11⟩ := L10.xp x11 p11
      refine ⟨_, rfl, pen, cs, n0 + 2 + 1010 + 2 + 100, rfl, p11, by omega, fun H12 wn l u wd hg x12 p12 hwn b1 b2 b3 b4 b5 b6 b7 b8 => ?_⟩
      obtain ⟨L12, k12⟩ := L11.xp x12 p12
      refine ⟨_, _, rfl, ?_⟩
      have hfm12 := FormAt.mono hfm k12.tups
      obtain ⟨asF, eF, lF, mF⟩ := id hfm12
      have f1 := okf.n1
      refine ⟨_, rfl, _, rfl, .ref _, _, rfl, Or.inr ⟨_, SqT.of (eF), rfl⟩, pen, cs, n0 + 2 + 1010 + 2 + 100 + 4, _, rfl, by simp; omega, by simp; omega, p12, by omega, fun sp H13 sp0 sp1 x13 p13 => ?_⟩
      obtain ⟨L13, k13⟩ := L12.xp x13 p13
      obtain ⟨r, rfl⟩ : ∃ r : Nat, sp = r := ⟨sp.toNat, by omega⟩
      have hr1 : r < fm.length := by simp at sp1; omega
      obtain ⟨dx13, sd13, hd13, hnet13, _⟩ := id L13.net.ex
      refine ⟨_, rfl, net, _, _, rfl, hnet13, rfl, _, rfl, _, rfl, rfl, rfl, _, _, _, rfl, fun tb htb => ?_⟩
      have s14 := Same.new (o := .tup [.str "ranked", .str "a", .ref fa, .int r]) htb
      have L14 := L13.same s14
      have okB : OkStg (1 + k1) dp (.rnk "a" fm r) := ⟨ok_names.1, okf, hr1⟩
      have hA1 : stg? (putE [] "a" (.src pic b bd tl)) "a" = some (.src pic b bd tl) := stg_hit
      have O2 := okNt_put O1 (nm := "b") ok_names.2.1 okB (fun p h => by rw [List.mem_singleton.mp h]; exact ⟨stg_mem.mpr ⟨_, hA1⟩, by decide +kernel⟩) (by have := O1.len; have := putE_len2 [] "a" (.src pic b bd tl); simp at this; omega)
      refine ⟨net, "b", tb, lvF, 1 + k1, dp, .rnk "a" fm r, _, rfl, by omega, L14.net, ⟨⟨fa, upd_same, FormAt.mono (FormAt.mono hfm12 k13.tups) (TupS.of s14)⟩⟩, ok_names.2.1, okB, O2, fun H15 fr15 N15 => ?_⟩
      obtain ⟨L15, k15⟩ := L14.put fr15 N15
      refine ⟨_, rfl, _, rfl, pen, cs, _, dp, rfl, by omega, by omega, L15.pen, by omega, fun H16 ta2 ts x16 p16 hts okt srt => ?_⟩
      obtain ⟨L16, k16⟩ := L15.xp x16 p16
      have kf : Kp K H12 H16 := ((k13.trans (Kp.of s14)).trans k15).trans k16
      refine ⟨_, rfl, _, rfl, (by rw [sizeLine_eq]; exact Nat.le_of_ble_eq_true rfl), fun t1 ht1 => ?_⟩
      have s17 := Same.new (o := .tup [.ref ta2, .int r]) ht1
      refine ⟨_, rfl, ta2, _, rfl, SqT.of (s17 _ _ hts), fun tr htr => ?_⟩
      have s18 := s17.trans (Same.new (o := .tup (ts.map V.int).reverse) htr)
      have eF18 := s18 _ _ (kf.tups _ _ eF)
      refine ⟨_, rfl, .ref _, _, rfl, Or.inr ⟨_, SqT.of (eF18), rfl⟩, _, _, rfl, rfl, _, rfl, _, _, rfl, rfl, (by rw [sizeLine_eq]; exact Nat.le_of_ble_eq_true rfl), fun t2 ht2 => ?_⟩
      generalize hq2 : upd (upd (upd H16 t1 _) tr _) t2 (HO.tup _) = H19
      have e2 : H19 t2 = some (.tup [.ref tr, .int (((asF.map V.ref).length : Nat) - 1 - (r : Int))]) := by rw [← hq2]; exact upd_same
      have s19 : Same H16 H19 := by rw [← hq2]; exact s18.trans (Same.new ht2)
      have e1 : H19 t1 = some (.tup [.ref ta2, .int r]) := by rw [← hq2]; exact (Same.new ht2) _ _ ((Same.new htr) _ _ upd_same)
      have er : H19 tr = some (.tup (ts.reverse.map V.int)) := by rw [← hq2, List.map_reverse]; exact (Same.new ht2) _ _ upd_same
      refine ⟨(by rw [sizeLine_eq]; exact Nat.le_of_ble_eq_true rfl), fun lp hlp => ?_⟩
      refine ⟨lp, rfl, ⟨_, SqL.of upd_same⟩, ?_⟩
      have s20 : Same H19 (upd H19 lp (.lst [.ref t1, .ref t2])) := Same.new hlp
      have elp : (upd H19 lp (.lst [.ref t1, .ref t2])) lp = some (.lst [.ref t1, .ref t2]) := upd_same
      generalize upd H19 lp (.lst [.ref t1, .ref t2]) = H20 at s20 elp ⊢
      have s21 : Same H16 H20 := s19.trans s20
      have L20 := L16.same s21
      have hA2 : stg? (putE (putE [] "a" (.src pic b bd tl)) "b" (.rnk "a" fm r)) "a" = some (.src pic b bd tl) := stg_miss (by decide) stg_hit
      have hB2 : stg? (putE (putE [] "a" (.src pic b bd tl)) "b" (.rnk "a" fm r)) "b" = some (.rnk "a" fm r) := stg_hit
      have hl2 : (putE (putE [] "a" (.src pic b bd tl)) "b" (.rnk "a" fm r)).length ≤ 2 := by
        have z1 := putE_len2 (putE [] "a" (.src pic b bd tl)) "b" (.rnk "a" fm r)
        have z2 := putE_len2 [] "a" (.src pic b bd tl)
        simp at z2
        omega
      generalize putE (putE [] "a" (.src pic b bd tl)) "b" (.rnk "a" fm r) = e0 at hA2 hB2 hl2 O2 L20
      have hfm20 : FormAt H20 fa fm := FormAt.mono hfm12 (kf.trans (Kp.of s21)).tups
      have hwn20 : H20 wn = some (.tup [.int l, .int u, .int wd, .int hg]) := (kf.trans (Kp.of s21)).tups _ _ hwn
      have e1 := s20 _ _ e1
      have e2 := s20 _ _ e2
      have er := s20 _ _ er
      have hts := s21 _ _ hts
      have nbl : n0 + 2 + 1010 + 2 + 100 + 4 + 1 + 100 ≤ n0 + 1500 := by omega
      generalize n0 + 2 + 1010 + 2 + 100 + 4 + 1 + 100 = nb at L20 nbl
      refine for_any (n := 2) (fun i2 v => ([V.ref t1, .ref t2] : List V)[i2]? = some v) (fun i2 σ G => ∃ e o10 o11, σ = [some (.ref a), some (.ref pen), some (.int (0 + (i : Int))), some (.int (1 + (k1 : Int))), some (.int dp), some (.ref net), some (.ref fa), some (.ref wn), some (.int r), some (.ref ta2), o10, o11, o12, o13, o14, o15, o16, o17, none, none, none] ∧
          LS K G pen cs net nb e (1 + k1) dp ∧ Kp K H20 G ∧ OkNt (1 + k1) dp lvF e ∧ e.length ≤ 2 + 3 * i2 ∧ stg? e "a" = some (.src pic b bd tl) ∧ stg? e "b" = some (.rnk "a" fm r) ∧ G lp = some (.lst [.ref t1, .ref t2]))
        ⟨e0, _, _, rfl, L20, Kp.refl _, O2, by omega, hA2, hB2, elp⟩ (fun i2 σ G hi2 j2 => ?_) (fun i2 v σ G N2 li2 ev2 j2 k2 => ?_) fun σ G j2 => ?_
      · obtain ⟨e, o10, o11, _, _, _, _, _, _, _, glp⟩ := j2
        exact it_lst (SqL.of glp) hi2
      · obtain ⟨e, o10, o11, rfl, LG, kG, OG, lG, hA, hB, glp⟩ := j2
        obtain ⟨tt, tab, tsi, r', rfl, htt, htab, oki, cond⟩ : ∃ (tt tab : Addr) (tsi : List Int) (r' : Nat), v = .ref tt ∧ G tt = some (.tup [.ref tab, .int r']) ∧ RowAt G tab tsi ∧ OkTab dp tsi ∧ ((tsi.Pairwise (· ≤ ·) ∧ r' = r) ∨ (tsi.Pairwise (fun u v => v ≤ u) ∧ r' = fm.length - 1 - r)) := by
          match i2, li2, ev2 with
          | 0, _, ev2 =>
            cases ev2
            exact ⟨t1, ta2, ts, r, rfl, kG.tups _ _ e1, kG.tups _ _ hts, okt, Or.inl ⟨srt, rfl⟩⟩
          | 1, _, ev2 =>
            cases ev2
            refine ⟨t2, tr, ts.reverse, fm.length - 1 - r, rfl, ?_, kG.tups _ _ er, ⟨by rw [List.length_reverse]; exact okt.len, fun z hz => okt.rng z (List.mem_reverse.mp hz), okt.d1, okt.d2⟩, Or.inr ⟨List.pairwise_reverse.mpr srt, rfl⟩⟩
            have z := kG.tups _ _ e2
            rw [z]
            congr 5
            rw [List.length_map, lF]
            omega
        have hrr : r' < fm.length := by
          rcases cond with ⟨_, z⟩ | ⟨_, z⟩ <;> omega
        have fmG := FormAt.mono hfm20 kG.tups
        refine ⟨_, _, rfl, SqT.of htt, rfl, _, _, rfl, _, _, rfl, rfl, ?_⟩
        obtain ⟨dxa, sda, hda, hneta, _⟩ := id LG.net.ex
        refine ⟨_, rfl, net, _, _, rfl, hneta, rfl, _, rfl, _, _, _, rfl, fun tc htc => ?_⟩
        have sc1 := Same.new (o := .tup [.str "curved", .str "b", .ref tab, .non]) htc
        have Lc1 := LG.same sc1
        have okC : OkStg (1 + k1) dp (.crv "b" tsi) := ⟨ok_names.2.1, oki⟩
        have Oc := okNt_put OG (nm := "c") ok_names.2.2.1 okC (fun p h => by rw [List.mem_singleton.mp h]; exact ⟨stg_mem.mpr ⟨_, hB⟩, by decide +kernel⟩) (by omega)
        refine ⟨net, "c", tc, lvF, 1 + k1, dp, .crv "b" tsi, _, rfl, by omega, Lc1.net, ⟨⟨tab, upd_same, sc1 _ _ htab⟩⟩, ok_names.2.2.1, okC, Oc, fun Hc frc Nc => ?_⟩
        obtain ⟨Lc, kc⟩ := Lc1.put frc Nc
        have kC : Kp K G Hc := (Kp.of sc1).trans kc
        have glc : Hc lp = some (.lst [.ref t1, .ref t2]) := frc _ _ (ne_of glp hneta (by intro z; cases z)) (sc1 _ _ glp)
        have htab2 := kC.tups _ _ htab
        have hA3 := stg_miss (k := "c") (st := .crv "b" tsi) (by decide) hA
        have hB3 := stg_miss (k := "c") (st := .crv "b" tsi) (by decide) hB
        have hC3 : stg? (putE e "c" (.crv "b" tsi)) "c" = some (.crv "b" tsi) := stg_hit
        have lc := putE_len2 e "c" (.crv "b" tsi)
        generalize putE e "c" (.crv "b" tsi) = ec at Lc Oc hA3 hB3 hC3 lc
        obtain ⟨dxc, sdc, hdc, hnetc, _⟩ := id Lc.net.ex
        refine ⟨_, rfl, net, _, _, rfl, hnetc, rfl, _, rfl, _, _, _, rfl, fun tt2 htt2 => ?_⟩
        have st1 := Same.new (o := .tup [.str "curved", .str "a", .ref tab, .non]) htt2
        have Lt1 := Lc.same st1
        have okT : OkStg (1 + k1) dp (.crv "a" tsi) := ⟨ok_names.1, oki⟩
        have Ot := okNt_put Oc (nm := "t") ok_names.2.2.2.2.2.2.2 okT (fun p h => by rw [List.mem_singleton.mp h]; exact ⟨stg_mem.mpr ⟨_, hA3⟩, by decide +kernel⟩) (by omega)
        refine ⟨net, "t", tt2, lvF, 1 + k1, dp, .crv "a" tsi, _, rfl, by omega, Lt1.net, ⟨⟨tab, upd_same, st1 _ _ htab2⟩⟩, ok_names.2.2.2.2.2.2.2, okT, Ot, fun Ht frt Nt => ?_⟩
        obtain ⟨Lt, kt⟩ := Lt1.put frt Nt
        have kT : Kp K G Ht := (kC.trans (Kp.of st1)).trans kt
        have glt : Ht lp = some (.lst [.ref t1, .ref t2]) := frt _ _ (ne_of glc hnetc (by intro z; cases z)) (st1 _ _ glc)
        have hA4 := stg_miss (k := "t") (st := .crv "a" tsi) (by decide) hA3
        have hB4 := stg_miss (k := "t") (st := .crv "a" tsi) (by decide) hB3
        have hC4 := stg_miss (k := "t") (st := .crv "a" tsi) (by decide) hC3
        have hT4 : stg? (putE ec "t" (.crv "a" tsi)) "t" = some (.crv "a" tsi) := stg_hit
        have lt4 := putE_len2 ec "t" (.crv "a" tsi)
        generalize putE ec "t" (.crv "a" tsi) = et at Lt Ot hA4 hB4 hC4 hT4 lt4
        obtain ⟨dxt, sdt, hdt, hnett, _⟩ := id Lt.net.ex
        refine ⟨_, rfl, net, _, _, rfl, hnett, rfl, _, rfl, _, rfl, rfl, rfl, _, _, _, rfl, fun td htd => ?_⟩
        have sd1 := Same.new (o := .tup [.str "ranked", .str "t", .ref fa, .int r']) htd
        have Ld1 := Lt.same sd1
        have okD : OkStg (1 + k1) dp (.rnk "t" fm r') := ⟨ok_names.2.2.2.2.2.2.2, okf, hrr⟩
        have Od := okNt_put Ot (nm := "d") ok_names.2.2.2.1 okD (fun p h => by rw [List.mem_singleton.mp h]; exact ⟨stg_mem.mpr ⟨_, hT4⟩, by decide +kernel⟩) (by omega)
        refine ⟨net, "d", td, lvF, 1 + k1, dp, .rnk "t" fm r', _, rfl, by omega, Ld1.net, ⟨⟨fa, upd_same, FormAt.mono (FormAt.mono fmG kT.tups) (TupS.of sd1)⟩⟩, ok_names.2.2.2.1, okD, Od, fun Hd frd Nd => ?_⟩
        obtain ⟨Ld, kd⟩ := Ld1.put frd Nd
        have kD : Kp K G Hd := (kT.trans (Kp.of sd1)).trans kd
        have gld : Hd lp = some (.lst [.ref t1, .ref t2]) := frd _ _ (ne_of glt hnett (by intro z; cases z)) (sd1 _ _ glt)
        have hA5 := stg_miss (k := "d") (st := .rnk "t" fm r') (by decide) hA4
        have hB5 := stg_miss (k := "d") (st := .rnk "t" fm r') (by decide) hB4
        have hC5 := stg_miss (k := "d") (st := .rnk "t" fm r') (by decide) hC4
        have hT5 := stg_miss (k := "d") (st := .rnk "t" fm r') (by decide) hT4
        have hD5 : stg? (putE et "d" (.rnk "t" fm r')) "d" = some (.rnk "t" fm r') := stg_hit
        have ld5 := putE_len2 et "d" (.rnk "t" fm r')
        generalize putE et "d" (.rnk "t" fm r') = ed at Ld Od hA5 hB5 hC5 hT5 hD5 ld5
        obtain ⟨dxd, sdd, hdd, hnetd, _⟩ := id Ld.net.ex
        have hwnd := kD.tups _ _ (kG.tups _ _ hwn20)
        refine ⟨_, rfl, net, _, _, rfl, hnetd, rfl, _, rfl, net, "c", wn, l, u, lvF, wd, hg, 1 + k1, dp, ed, rfl, Ld.net, Od, lvF_le, stg_mem.mpr ⟨_, hC5⟩, hwnd, by omega, by omega, by omega, by omega, by omega, by omega, by omega, by omega, by omega, by omega, dp1, by omega, Ld.tb, fun Hw1 pc E1 Tw1 pic1 => ?_⟩
        have Lw1 := Ld.ext E1 Tw1
        have hnetw := E1 _ _ hnetd fun ps z => by cases z
        refine ⟨_, rfl, net, _, _, rfl, hnetw, rfl, _, rfl, net, "d", wn, l, u, lvF, wd, hg, 1 + k1, dp, ed, rfl, Lw1.net, Od, lvF_le, stg_mem.mpr ⟨_, hD5⟩, (Kp.ext (K := K) E1).tups _ _ hwnd, by omega, by omega, by omega, by omega, by omega, by omega, by omega, by omega, by omega, by omega, dp1, by omega, Lw1.tb, fun Hw2 pd E2 Tw2 pic2 => ?_⟩
        have Lw2 := Lw1.ext E2 Tw2
        have same : planesOf (ev ed "c") l u wd hg (1 + k1) = planesOf (ev ed "d") l u wd hg (1 + k1) := planesOf_congr fun x y p hp => law_tab Od lvF_le hC5 hB5 hT5 hD5 cond hp
        rw [← same] at pic2
        have pic1 := pic1.mono (Kp.ext E2)
        obtain ⟨dc, pac, hpc, _⟩ := id pic1
        obtain ⟨dd, pad, hpd, _⟩ := id pic2
        refine ⟨pc, pd, dc, dd, _, _, rfl, rfl, hpc, hpd, pc, pd, _, rfl, pic1, pic2, fun Hz sz => ⟨rfl, ?_⟩⟩
        refine ⟨_, rfl, ?_⟩
        refine k2 _ _ ⟨ed, _, _, rfl, Lw2.same sz, ((kG.trans kD).trans ((Kp.ext E1).trans (Kp.ext E2))).trans (Kp.of sz), Od, by omega, hA5, hB5, ?_⟩
        exact sz _ _ (E2 _ _ (E1 _ _ gld fun ps z => by cases z) fun ps z => by cases z)
      · obtain ⟨e, o10, o11, rfl, LG, kG, OG, lG, hA, hB, glp⟩ := j2
        obtain ⟨dxa, sda, hda, hneta, _⟩ := id LG.net.ex
        have hnb : nb ≤ n0 + 1500 := nbl
        refine ⟨_, rfl, net, _, _, rfl, hneta, rfl, _, rfl, _, _, rfl, rfl, (dp : Int) + 1, rfl, by omega, by omega, fun D hD => ?_⟩
        rw [show ((dp : Int) + 1).toNat = dp + 1 from by omega]
        have D1 := LG.pen.ne_none hD
        refine lc_anyI (n := dp + 1) (fun i v => v = .int (0 + (i : Int))) (fun i G' => Xp pen G G' ∧ PenAt G' pen cs (nb + i)) (fun i y _ => ∃ z : Int, y = .int z ∧ 0 ≤ z ∧ z ≤ dp) ⟨Xp.of (Same.new hD), LG.pen.same (Same.new hD)⟩ (fun i G' hi _ => it_rng hi) (fun i G' acc acc' j e => ⟨j.1.new hD, j.2.put D1⟩) (fun _ _ _ _ _ h => h) (by omega)
          (fun i v G' acc Fin li ev j e k => ?_) fun G1 acc jx ee el ho => ?_
        · refine ⟨rfl, _, rfl, _, rfl, _, _, rfl, rfl, pen, cs, nb + i, _, rfl, by omega, by omega, j.2, by omega, fun z1 H1 z10 z11 y1 q1 => ?_⟩
          exact k _ _ ⟨j.1.trans y1, q1⟩ (y1 _ _ D1.1 e) (y1.tups j.2) ⟨z1, rfl, z10, by omega⟩
        obtain ⟨xG1, pG1⟩ := jx
        obtain ⟨LG1, kG1⟩ := LG.xp xG1 pG1
        obtain ⟨ws, rfl, hws⟩ : ∃ ws : List Int, acc = ws.map V.int ∧ ∀ z ∈ ws, 0 ≤ z ∧ z ≤ (dp : Int) := ints_of ho
        have hwl : ws.length = dp + 1 := by simpa using el
        refine ⟨D, _, rfl, Or.inl ⟨SqL.of ee, fun tw htw => ?_⟩⟩
        have sw := Same.new (o := .tup (ws.map V.int)) htw
        refine ⟨_, _, _, rfl, fun tt3 htt3 => ?_⟩
        have sw2 := sw.trans (Same.new (o := .tup [.str "curved", .str "a", .ref tw, .non]) htt3)
        have Lt1 := LG1.same sw2
        have okw : OkTab dp ws := ⟨hwl, hws, dp1, by omega⟩
        have okT : OkStg (1 + k1) dp (.crv "a" ws) := ⟨ok_names.1, okw⟩
        have Ot := okNt_put OG (nm := "t") ok_names.2.2.2.2.2.2.2 okT (fun p h => by rw [List.mem_singleton.mp h]; exact ⟨stg_mem.mpr ⟨_, hA⟩, by decide +kernel⟩) (by omega)
        refine ⟨net, "t", tt3, lvF, 1 + k1, dp, .crv "a" ws, _, rfl, by omega, Lt1.net, ⟨⟨tw, upd_same, (Same.new htt3) _ _ upd_same⟩⟩, ok_names.2.2.2.2.2.2.2, okT, Ot, fun Ht frt Nt => ?_⟩
        obtain ⟨Lt, kt⟩ := Lt1.put frt Nt
        have kT : Kp K H20 Ht := ((kG.trans kG1).trans (Kp.of sw2)).trans kt
        have hA4 := stg_miss (k := "t") (st := .crv "a" ws) (by decide) hA
        have hB4 := stg_miss (k := "t") (st := .crv "a" ws) (by decide) hB
        have hT4 : stg? (putE e "t" (.crv "a" ws)) "t" = some (.crv "a" ws) := stg_hit
        have lt4 := putE_len2 e "t" (.crv "a" ws)
        generalize putE e "t" (.crv "a" ws) = et at Lt Ot hA4 hB4 hT4 lt4
        obtain ⟨dxt, sdt, hdt, hnett, _⟩ := id Lt.net.ex
        refine ⟨_, rfl, net, _, _, rfl, hnett, rfl, _, rfl, _, rfl, rfl, rfl, _, _, _, rfl, fun td htd => ?_⟩
        have sd1 := Same.new (o := .tup [.str "ranked", .str "t", .ref fa, .int r]) htd
        have Ld1 := Lt.same sd1
        have okD : OkStg (1 + k1) dp (.rnk "t" fm r) := ⟨ok_names.2.2.2.2.2.2.2, okf, hr1⟩
        have Od := okNt_put Ot (nm := "d") ok_names.2.2.2.1 okD (fun p h => by rw [List.mem_singleton.mp h]; exact ⟨stg_mem.mpr ⟨_, hT4⟩, by decide +kernel⟩) (by omega)
        refine ⟨net, "d", td, lvF, 1 + k1, dp, .rnk "t" fm r, _, rfl, by omega, Ld1.net, ⟨⟨fa, upd_same, FormAt.mono (FormAt.mono hfm20 kT.tups) (TupS.of sd1)⟩⟩, ok_names.2.2.2.1, okD, Od, fun Hd frd Nd => ?_⟩
        obtain ⟨Ld, kd⟩ := Ld1.put frd Nd
        have kD : Kp K H20 Hd := (kT.trans (Kp.of sd1)).trans kd
        have hA5 := stg_miss (k := "d") (st := .rnk "t" fm r) (by decide) hA4
        have hD5 : stg? (putE et "d" (.rnk "t" fm r)) "d" = some (.rnk "t" fm r) := stg_hit
        have ld5 := putE_len2 et "d" (.rnk "t" fm r)
        generalize putE et "d" (.rnk "t" fm r) = ed at Ld Od hA5 hD5 ld5
        refine ⟨_, rfl, _, rfl, _, rfl, net, "d", fa, wn, lvF, fm, r, 1 + k1, dp, wd, hg, l, u, ed, rfl, Ld.net, Od, lvF_le, hD5, FormAt.mono hfm20 kD.tups, kD.tups _ _ hwn20, by omega, by omega, by omega, by omega, by omega, by omega, by omega, by omega, by omega, by omega, dp1, by omega, Ld.tb, fun Hi Ei Ti => ⟨true, rfl, iteF ?_⟩⟩
        have Li := Ld.ext Ei Ti
        have kI : Kp K H20 Hi := kD.trans (Kp.ext Ei)
        refine ⟨_, rfl, pen, cs, nb + (dp + 1), 2, rfl, by omega, by omega, Li.pen, by omega, fun Hs fs sc xs ps hsc oksc lsc => ?_⟩
        obtain ⟨Ls, ks⟩ := Li.xp xs ps
        have kS : Kp K H20 Hs := kI.trans ks
        refine ⟨(by rw [sizeLine_eq]; exact Nat.le_of_ble_eq_true rfl), fun bl hbl => ?_⟩
        have sb0 : Same Hs (upd Hs bl (.lst [])) := Same.new hbl
        have hfmS : FormAt Hs fa fm := FormAt.mono hfm20 kS.tups
        obtain ⟨asG, eG, lG2, mG⟩ := id hfmS
        obtain ⟨asS, eS, lS, mS⟩ := id hsc
        have f2 := okf.n2
        have g1 := oksc.n1
        refine ⟨_, rfl, fa, rfl, ⟨_, SqT.of (sb0 _ _ eG)⟩, ?_⟩
        refine for_any (n := (asG.map V.ref).length) (fun i2 v => (asG.map V.ref)[i2]? = some v) (fun i2 σ G => ∃ both o14 o15 o16, σ = [some (.ref a), some (.ref pen), some (.int (0 + (i : Int))), some (.int (1 + (k1 : Int))), some (.int dp), some (.ref net), some (.ref fa), some (.ref wn), some (.int r), some (.ref ta2), o10, o11, some (.ref fs), some (.ref bl), o14, o15, o16, o17, none, none, none] ∧
            Same Hs G ∧ BothAt G bl both ∧ BothOk fm sc both ∧ (∀ c ∈ fm.take i2, ∀ s ∈ sc, InR (c.1 + s.1, c.2 + s.2) → (c.1 + s.1, c.2 + s.2) ∈ both) ∧ both.length ≤ i2 * 2)
          ⟨[], _, _, _, rfl, sb0, ⟨[], upd_same, rfl, fun i c h => (by simp at h)⟩, ⟨List.nodup_nil, fun b h => (by cases h)⟩, fun c h => (by simp at h), by simp⟩ (fun i2 σ G hi2 j2 => ?_) (fun i2 v σ G N2 li2 ev2 j2 k2 => ?_) fun σ G j2 => ?_
        · obtain ⟨both, o14, o15, o16, _, sG, _⟩ := j2
          exact it_tup (SqT.of (sG _ _ eG)) hi2
        · obtain ⟨both, o14, o15, o16, rfl, sG, bA, bO, comp, lb⟩ := j2
          have li3 : i2 < fm.length := by simp at li2; omega
          obtain ⟨bq, ebq, hbq⟩ := mG i2 fm[i2] (by simp [li3])
          have ev3 : v = .ref bq := by
            rw [List.getElem?_map, ebq] at ev2
            exact (Option.some.inj ev2).symm
          subst ev3
          have tk : fm.take (i2 + 1) = fm.take i2 ++ [fm[i2]] := by rw [List.take_succ, List.getElem?_eq_getElem li3]; rfl
          have dmem : fm[i2] ∈ fm := List.getElem_mem li3
          rw [tk] at k2
          generalize fm[i2] = d at hbq k2 dmem
          refine ⟨_, _, rfl, SqT.of (sG _ _ hbq), rfl, _, _, rfl, _, _, rfl, rfl, ?_⟩
          refine ⟨_, rfl, fs, rfl, ⟨_, SqT.of (sG _ _ eS)⟩, fun D2 hD2 => ?_⟩
          refine lc_tupG (xs := asS.map V.ref) (fun H' => Same G H') (fun i v H' => ∃ b c, v = .ref b ∧ sc[i]? = some c ∧ PlaceAt H' b (d.1 + c.1, d.2 + c.2)) (Same.new hD2) (fun H' j => j.sqt (SqT.of (sG _ _ eS))) (fun H' acc acc' j e => j.to' hD2) (fun i v H1 H2 ts h => ?_) (by simp; omega) (fun i3 v H' acc Fin hx j e k3 => ?_) fun G2 acc j2 e2 el2 ho2 => ?_
          · obtain ⟨b, c, e1, e2, e3⟩ := h
            exact ⟨b, c, e1, e2, ts _ _ e3⟩
          · have li4 : i3 < sc.length := by
              have := (List.getElem?_eq_some_iff.mp hx).1
              simp at this
              omega
            obtain ⟨b, eb, hb⟩ := mS i3 sc[i3] (by simp [li4])
            have ev : v = .ref b := by
              rw [List.getElem?_map, eb] at hx
              exact (Option.some.inj hx).symm
            subst ev
            refine ⟨_, _, rfl, SqT.of (j _ _ (sG _ _ hb)), rfl, _, _, rfl, _, _, rfl, rfl, rfl, ?_⟩
            refine ⟨_, rfl, _, rfl, _, _, rfl, rfl, _, rfl, _, rfl, _, _, rfl, rfl, (by rw [sizeLine_eq]; exact Nat.le_of_ble_eq_true rfl), fun p hp => ?_⟩
            have sn := Same.new (o := .tup [.int (d.1 + sc[i3].1), .int (d.2 + sc[i3].2)]) hp
            exact k3 _ _ (j.trans sn) (sn _ _ e) (TupS.of sn) ⟨p, sc[i3], rfl, by simp [li4], upd_same⟩
          obtain ⟨as2, eb2, lb2, mb2⟩ := id bA
          have hDb : D2 ≠ bl := fun z => by rw [z, eb2] at hD2; cases hD2
          refine ⟨D2, rfl, ⟨_, SqL.of e2⟩, ?_⟩
          have sG2 : Same Hs G2 := sG.trans j2
          refine for_any (n := acc.length) (fun i3 v => acc[i3]? = some v) (fun i3 σ G3 => ∃ both2 o16, σ = [some (.ref a), some (.ref pen), some (.int (0 + (i : Int))), some (.int (1 + (k1 : Int))), some (.int dp), some (.ref net), some (.ref fa), some (.ref wn), some (.int r), some (.ref ta2), o10, o11, some (.ref fs), some (.ref bl), some (.int d.1), some (.int d.2), o16, o17, none, none, none] ∧
              Same Hs G3 ∧ TupS G2 G3 ∧ G3 D2 = some (.lst acc) ∧ BothAt G3 bl both2 ∧ BothOk fm sc both2 ∧ (∀ q ∈ both, q ∈ both2) ∧ (∀ s ∈ sc.take i3, InR (d.1 + s.1, d.2 + s.2) → (d.1 + s.1, d.2 + s.2) ∈ both2) ∧ both2.length ≤ i2 * 2 + i3)
            ⟨both, _, rfl, sG2, TupS.refl _, e2, bA.same j2, bO, fun q h => h, fun s h => (by simp at h), by omega⟩ (fun i3 σ G3 hi3 j3 => ?_) (fun i3 v σ G3 N3 li4 ev4 j3 k3 => ?_) fun σ G3 j3 => ?_
          · obtain ⟨both2, o16, _, _, _, eD, _⟩ := j3
            exact it_lst (SqL.of eD) hi3
          · obtain ⟨both2, o16, rfl, sG3, t23, eD, bA3, bO3, sub3, comp3, lb3⟩ := j3
            obtain ⟨pb, c, rfl, hc, hpb⟩ := ho2 i3 v ev4
            have hpb := t23 _ _ hpb
            obtain ⟨as3, eb3, lb4, mb3⟩ := id bA3
            have lsc3 : i3 < sc.length := (List.getElem?_eq_some_iff.mp hc).1
            have tk3 : sc.take (i3 + 1) = sc.take i3 ++ [c] := by rw [List.take_succ, hc]; rfl
            have cmem : c ∈ sc := List.mem_of_getElem? hc
            have go : ∀ both3 G4, Same Hs G4 → TupS G2 G4 → G4 D2 = some (.lst acc) → BothAt G4 bl both3 → BothOk fm sc both3 → (∀ q ∈ both2, q ∈ both3) → (InR (d.1 + c.1, d.2 + c.2) → (d.1 + c.1, d.2 + c.2) ∈ both3) → both3.length ≤ both2.length + 1 →
                N3 [some (.ref a), some (.ref pen), some (.int (0 + (i : Int))), some (.int (1 + (k1 : Int))), some (.int dp), some (.ref net), some (.ref fa), some (.ref wn), some (.int r), some (.ref ta2), o10, o11, some (.ref fs), some (.ref bl), some (.int d.1), some (.int d.2), some (.ref pb), o17, none, none, none] G4 := by
              intro both3 G4 w1 w2 w3 w4 w5 w6 w7 w8
              refine k3 _ _ ⟨both3, _, rfl, w1, w2, w3, w4, w5, fun q h => w6 q (sub3 q h), fun s h hr => ?_, by omega⟩
              rw [tk3] at h
              rcases List.mem_append.mp h with z | z
              · exact w6 _ (comp3 s z hr)
              · rw [List.mem_singleton.mp z] at hr ⊢; exact w7 hr
            refine ⟨_, rfl, _, rfl, plcD (d.1 + c.1, d.2 + c.2), both2.map plcD, .tup (SqT.of hpb) (.cons (.int _) (.cons (.int _) .nil)), .lst (SqL.of eb3) (dp_all both2 as3 lb4 fun i2 c e => by
              obtain ⟨b, e1, e2⟩ := mb3 i2 c e
              exact ⟨b, e1, .tup (SqT.of e2) (.cons (.int _) (.cons (.int _) .nil))⟩), plc_shaped _, plcs_shaped both2, _, rfl, ?_⟩
            rw [plc_any]
            by_cases cm : (d.1 + c.1, d.2 + c.2) ∈ both2
            · exact if_nottrue cm (go both2 G3 sG3 t23 eD bA3 bO3 (fun q h => h) (fun _ => cm) (by omega))
            refine if_notfalse cm ?_
            refine ⟨_, rfl, _, _, _, _, rfl, rfl, SqT.of (hpb), atI_nat (j := 0) rfl, _, rfl, _, _, rfl, rfl, _, rfl, ?_⟩
            by_cases ca : (if d.1 + c.1 < 0 then -(d.1 + c.1) else d.1 + c.1) < 5
            · refine if_true ca ?_
              refine ⟨_, rfl, _, _, _, _, rfl, rfl, SqT.of (hpb), atI_nat (j := 1) rfl, _, rfl, _, _, rfl, rfl, _, rfl, ?_⟩
              by_cases cb : (if d.2 + c.2 < 0 then -(d.2 + c.2) else d.2 + c.2) < 5
              · refine if_true cb ?_
                have inr : InR (d.1 + c.1, d.2 + c.2) := by
                  refine ⟨?_, ?_, ?_, ?_⟩
                  · show -5 < d.1 + c.1; split at ca <;> omega
                  · show d.1 + c.1 < 5; split at ca <;> omega
                  · show -5 < d.2 + c.2; split at cb <;> omega
                  · show d.2 + c.2 < 5; split at cb <;> omega
                refine ⟨_, rfl, Or.inl ⟨rfl, _, SqL.of eb3⟩, _, rfl, bl, _, _, rfl, rfl, eb3, by rw [sizeLine_eq, List.length_map]; omega, ?_⟩
                have ts : TupS G3 (upd G3 bl (.lst (as3.map V.ref ++ [V.ref pb]))) := fun b ys e => (upd_ne (ne_of e eb3 (by intro y; cases y))).trans e
                refine go (both2 ++ [(d.1 + c.1, d.2 + c.2)]) _ (sG3.to hbl) (t23.trans ts) ((upd_ne hDb).trans eD) ?_ ?_ (fun q h => List.mem_append_left _ h) (fun _ => List.mem_append_right _ (List.mem_singleton.mpr rfl)) (by simp)
                · exact bA3.snoc eb3 lb4 mb3 hpb ts
                · exact bO3.snoc cm inr dmem cmem
              · refine if_false cb (go both2 G3 sG3 t23 eD bA3 bO3 (fun q h => h) (fun h => ?_) (by omega))
                exact absurd (show (if d.2 + c.2 < 0 then -(d.2 + c.2) else d.2 + c.2) < 5 by have h3 : -5 < d.2 + c.2 := h.r3; have h4 : d.2 + c.2 < 5 := h.r4; split <;> omega) cb
            · refine if_false ca (go both2 G3 sG3 t23 eD bA3 bO3 (fun q h => h) (fun h => ?_) (by omega))
              exact absurd (show (if d.1 + c.1 < 0 then -(d.1 + c.1) else d.1 + c.1) < 5 by have h3 : -5 < d.1 + c.1 := h.r1; have h4 : d.1 + c.1 < 5 := h.r2; split <;> omega) ca
          · obtain ⟨both2, o16, rfl, sG3, t23, eD, bA3, bO3, sub3, comp3, lb3⟩ := j3
            have la : acc.length = sc.length := by simp at el2; omega
            refine k2 _ _ ⟨both2, _, _, _, rfl, sG3, bA3, bO3, fun c hc s hs hr => ?_, by omega⟩
            rcases List.mem_append.mp hc with z | z
            · exact sub3 _ (comp c z s hs hr)
            · rw [List.mem_singleton.mp z] at hr ⊢
              rw [la, List.take_length] at comp3
              exact comp3 s hs hr
        · obtain ⟨both, o14, o15, o16, rfl, sG, bA, bO, comp, lb⟩ := j2
          have lG3 : (asG.map V.ref).length = fm.length := by simp; omega
          rw [lG3, List.take_length] at comp
          rw [lG3] at lb
          have LG9 := Ls.same sG
          obtain ⟨dxg, sdg, hdg, hnetg, _⟩ := id LG9.net.ex
          obtain ⟨asB, ebB, lbB, mbB⟩ := id bA
          have fmG := FormAt.mono hfmS (TupS.of sG)
          have scG := FormAt.mono hsc (TupS.of sG)
          refine ⟨_, rfl, net, _, _, rfl, hnetg, rfl, _, rfl, _, _, _, rfl, fun te hte => ?_⟩
          have se1 := Same.new (o := .tup [.str "ranked", .str "a", .ref fa, .int 0]) hte
          have Le1 := LG9.same se1
          have okE : OkStg (1 + k1) dp (.rnk "a" fm 0) := ⟨ok_names.1, okf, by omega⟩
          have Oe := okNt_put Od (nm := "e") ok_names.2.2.2.2.1 okE (fun p h => by rw [List.mem_singleton.mp h]; exact ⟨stg_mem.mpr ⟨_, hA5⟩, by decide +kernel⟩) (by omega)
          refine ⟨net, "e", te, lvF, 1 + k1, dp, .rnk "a" fm 0, _, rfl, by omega, Le1.net, ⟨⟨fa, upd_same, FormAt.mono fmG (TupS.of se1)⟩⟩, ok_names.2.2.2.2.1, okE, Oe, fun He fre Ne => ?_⟩
          obtain ⟨Le, ke⟩ := Le1.put fre Ne
          have ebE := fre _ _ (ne_of ebB hnetg (by intro z; cases z)) (se1 _ _ ebB)
          have kE : Kp K G He := (Kp.of se1).trans ke
          have hA6 := stg_miss (k := "e") (st := .rnk "a" fm 0) (by decide) hA5
          have hE6 : stg? (putE ed "e" (.rnk "a" fm 0)) "e" = some (.rnk "a" fm 0) := stg_hit
          have le6 := putE_len2 ed "e" (.rnk "a" fm 0)
          generalize putE ed "e" (.rnk "a" fm 0) = ee at Le Oe hA6 hE6 le6
          obtain ⟨dxe, sde, hde, hnete, _⟩ := id Le.net.ex
          refine ⟨_, rfl, net, _, _, rfl, hnete, rfl, _, rfl, _, _, _, rfl, fun tf htf => ?_⟩
          have sf1 := Same.new (o := .tup [.str "ranked", .str "e", .ref fs, .int 0]) htf
          have Lf1 := Le.same sf1
          have okF : OkStg (1 + k1) dp (.rnk "e" sc 0) := ⟨ok_names.2.2.2.2.1, oksc, by omega⟩
          have Of := okNt_put Oe (nm := "f") ok_names.2.2.2.2.2.1 okF (fun p h => by rw [List.mem_singleton.mp h]; exact ⟨stg_mem.mpr ⟨_, hE6⟩, by decide +kernel⟩) (by omega)
          refine ⟨net, "f", tf, lvF, 1 + k1, dp, .rnk "e" sc 0, _, rfl, by omega, Lf1.net, ⟨⟨fs, upd_same, FormAt.mono (FormAt.mono scG kE.tups) (TupS.of sf1)⟩⟩, ok_names.2.2.2.2.2.1, okF, Of, fun Hf frf Nf => ?_⟩
          obtain ⟨Lf, kf9⟩ := Lf1.put frf Nf
          have ebF := frf _ _ (ne_of ebE hnete (by intro z; cases z)) (sf1 _ _ ebE)
          have kF : Kp K G Hf := (kE.trans (Kp.of sf1)).trans kf9
          have hA7 := stg_miss (k := "f") (st := .rnk "e" sc 0) (by decide) hA6
          have hE7 := stg_miss (k := "f") (st := .rnk "e" sc 0) (by decide) hE6
          have hF7 : stg? (putE ee "f" (.rnk "e" sc 0)) "f" = some (.rnk "e" sc 0) := stg_hit
          have lf7 := putE_len2 ee "f" (.rnk "e" sc 0)
          generalize putE ee "f" (.rnk "e" sc 0) = ef at Lf Of hA7 hE7 hF7 lf7
          obtain ⟨asP, eP, lP, mP⟩ := FormAt.mono fmG kF.tups
          obtain ⟨asQ, eQ, lQ, mQ⟩ := FormAt.mono scG kF.tups
          have fend : ∀ o17' G', LS K G' pen cs net (nb + (dp + 1) + 100) ef (1 + k1) dp → N [some (.ref a), some (.ref pen), some (.int (0 + (i : Int))), some (.int (1 + (k1 : Int))), some (.int dp), some (.ref net), some (.ref fa), some (.ref wn), some (.int r), some (.ref ta2), o10, o11, some (.ref fs), some (.ref bl), o14, o15, o16, o17', none, none, none] G' := fun o17' G' LL =>
            k _ _ ⟨_, _, _, _, _, _, _, _, _, _, _, _, _, _, _, _, rfl, LL.pen.mono (by omega), LL.tb⟩
          have fend2 : ∀ o17' G' e9, LS K G' pen cs net (nb + (dp + 1) + 100) e9 (1 + k1) dp → N [some (.ref a), some (.ref pen), some (.int (0 + (i : Int))), some (.int (1 + (k1 : Int))), some (.int dp), some (.ref net), some (.ref fa), some (.ref wn), some (.int r), some (.ref ta2), o10, o11, some (.ref fs), some (.ref bl), o14, o15, o16, o17', none, none, none] G' := fun o17' G' e9 LL =>
            k _ _ ⟨_, _, _, _, _, _, _, _, _, _, _, _, _, _, _, _, rfl, LL.pen.mono (by omega), LL.tb⟩
          refine ⟨_, rfl, _, rfl, fa, fs, _, _, rfl, rfl, SqT.of eP, SqT.of eQ, (by intro z; rw [List.map_eq_nil_iff] at z; rw [z] at lP; simp at lP; omega), (by rw [sizeLine_eq]; have := oksc.n2; simp; omega), (fun z => by rw [List.map_eq_nil_iff] at z; rw [z] at lQ; simp at lQ; omega), fun _ tc htc => ?_⟩
          have sc9 := Same.new (o := .tup (asP.map V.ref ++ asQ.map V.ref)) htc
          refine ⟨tc, rfl, ⟨_, SqT.of upd_same⟩, fun D hD => ?_⟩
          have etc : (upd Hf tc (.tup (asP.map V.ref ++ asQ.map V.ref))) tc = some (.tup (asP.map V.ref ++ asQ.map V.ref)) := upd_same
          generalize upd Hf tc (.tup (asP.map V.ref ++ asQ.map V.ref)) = H9 at sc9 etc hD ⊢
          have lall : (asP.map V.ref ++ asQ.map V.ref).length = (fm ++ sc).length := by simp; omega
          have pall : ∀ (i3 : Nat) c, (fm ++ sc)[i3]? = some c → ∃ b, (asP.map V.ref ++ asQ.map V.ref)[i3]? = some (V.ref b) ∧ PlaceAt H9 b c := by
            intro i3 c hc
            by_cases c1 : i3 < fm.length
            · rw [List.getElem?_append_left c1] at hc
              obtain ⟨b, e1, e2⟩ := mP i3 c hc
              exact ⟨b, by rw [List.getElem?_append_left (by simp; omega), List.getElem?_map, e1]; rfl, sc9 _ _ e2⟩
            · rw [List.getElem?_append_right (by omega)] at hc
              obtain ⟨b, e1, e2⟩ := mQ _ c hc
              exact ⟨b, by rw [List.getElem?_append_right (by simp; omega), List.getElem?_map, List.length_map, lP, e1]; rfl, sc9 _ _ e2⟩
          have n25 := oksc.n2
          refine ⟨fun i3 m G' => m = (fm ++ sc).length - i3 ∧ i3 ≤ (fm ++ sc).length ∧ Same H9 G' ∧ ∃ kk : Nat, G' D = some (.lst ((List.replicate kk (1 : Int)).map V.int)) ∧ kk ≤ i3 ∧ (kk = 0 → ∀ c ∈ (fm ++ sc).take i3, SmP c), ⟨_, rfl, Nat.zero_le _, Same.new hD, 0, upd_same, Nat.le_refl _, fun _ c h => (by simp at h)⟩, ?_⟩
          rintro i3 m G3 ⟨rfl, hi3, s3, kk, eD, lk, hsm⟩
          by_cases li9 : i3 < (fm ++ sc).length
          · obtain ⟨c, hc⟩ : ∃ c, (fm ++ sc)[i3]? = some c := ⟨(fm ++ sc)[i3], by rw [List.getElem?_eq_getElem li9]⟩
            obtain ⟨b9, eb9, hb9⟩ := pall i3 c hc
            have tk9 : (fm ++ sc).take (i3 + 1) = (fm ++ sc).take i3 ++ [c] := by rw [List.take_succ, hc]; rfl
            refine Or.inr ⟨⟨_, V.ref b9, SqT.of (s3 _ _ etc), eb9⟩, fun G' => Same H9 G' ∧ ∃ kk : Nat, G' D = some (.lst ((List.replicate kk (1 : Int)).map V.int)) ∧ kk ≤ i3 + 1 ∧ (kk = 0 → ∀ c ∈ (fm ++ sc).take (i3 + 1), SmP c), fun G' z => ⟨_, by omega, rfl, li9, z⟩, fun x G' y => ?_⟩
            obtain ⟨rfl, y⟩ := y
            have ex := y _ (SqT.of (s3 _ _ etc))
            rw [eb9] at ex
            cases ex
            have yes : ∃ acc, G' D = some (.lst acc) ∧ acc.length < sizeLine ∧ (Same H9 (upd G' D (.lst (acc ++ [.int 1]))) ∧ ∃ kk : Nat, (upd G' D (.lst (acc ++ [.int 1]))) D = some (.lst ((List.replicate kk (1 : Int)).map V.int)) ∧ kk ≤ i3 + 1 ∧ (kk = 0 → ∀ c ∈ (fm ++ sc).take (i3 + 1), SmP c)) := by
              refine ⟨_, eD, by rw [sizeLine_eq, List.length_map, List.length_replicate]; simp at hi3; omega, s3.to' hD, kk + 1, ?_, by omega, fun z => absurd z (by omega)⟩
              rw [upd_same, List.replicate_succ', List.map_append]
              rfl
            have hbG := s3 _ _ hb9
            refine ⟨_, _, rfl, SqT.of hbG, rfl, _, _, rfl, _, _, rfl, rfl, rfl, ?_⟩
            refine ⟨_, rfl, _, rfl, _, _, rfl, rfl, _, rfl, ?_⟩
            by_cases ca : (if c.1 < 0 then -c.1 else c.1) > 2
            · exact if_true ca yes
            refine if_false ca ?_
            refine ⟨_, rfl, _, rfl, _, _, rfl, rfl, _, rfl, ?_⟩
            by_cases cb : (if c.2 < 0 then -c.2 else c.2) > 2
            · exact if_true cb yes
            refine if_false cb ⟨s3, kk, eD, by omega, fun z c' hc' => ?_⟩
            rw [tk9] at hc'
            rcases List.mem_append.mp hc' with w | w
            · exact hsm z c' w
            · rw [List.mem_singleton.mp w]
              refine ⟨?_, ?_, ?_, ?_⟩
              · split at ca <;> omega
              · split at ca <;> omega
              · split at cb <;> omega
              · split at cb <;> omega
          · have e9 : i3 = (fm ++ sc).length := by omega
            subst e9
            rw [List.take_length] at hsm
            refine Or.inl ⟨⟨_, SqT.of (s3 _ _ etc), by rw [lall]; exact Nat.le_refl _⟩, ?_⟩
            have L3 := (Lf.same sc9).same s3
            refine ⟨_, rfl, (by rw [sizeLine_eq]; exact Nat.le_of_ble_eq_true rfl), fun E1 hE1 => ?_⟩
            have sE1 := Same.new (o := .lst []) hE1
            have eD2 := sE1 _ _ eD
            have L4 := L3.same sE1
            refine ⟨.list ((List.replicate kk (1 : Int)).map PyData.int), .list [], .lst (SqL.of eD2) (dp_ints _), .lst (SqL.of upd_same) .nil, ints_shaped _, ints_shaped [], _, rfl, ?_⟩
            rw [ints_eqv_nil]
            have kG4 : Kp K G (upd G3 E1 (.lst [])) := kF.trans (Kp.of ((sc9.trans s3).trans sE1))
            have eb4 := sE1 _ _ (s3 _ _ (sc9 _ _ ebF))
            by_cases k0 : kk = 0
            · refine if_true (by rw [k0]; rfl) ?_
              refine ⟨_, rfl, .ref _, _, rfl, Or.inl ⟨_, SqL.of (eb4), rfl⟩, _, _, rfl, rfl, _, rfl, ?_⟩
              by_cases b25 : ((asB.map V.ref).length : Int) ≤ 25
              · refine if_true b25 ?_
                obtain ⟨dx4, sd4, hd4, hnet4, _⟩ := id L4.net.ex
                have eqB : ∀ b, b ∈ both ↔ ∃ c ∈ fm, ∃ s ∈ sc, b = (c.1 + s.1, c.2 + s.2) := by
                  intro b9
                  constructor
                  · exact fun z => (bO.of b9 z).2
                  · rintro ⟨c, hc, s9, hs9, rfl⟩
                    refine comp c hc s9 hs9 ?_
                    have m1 := hsm k0 c (List.mem_append_left _ hc)
                    have m2 := hsm k0 s9 (List.mem_append_right _ hs9)
                    have := m1.r1; have := m1.r2; have := m1.r3; have := m1.r4
                    have := m2.r1; have := m2.r2; have := m2.r3; have := m2.r4
                    refine ⟨?_, ?_, ?_, ?_⟩ <;> (simp only []; omega)
                have okB : OkForm both := by
                  refine ⟨bO.nd, ?_, by simp at b25; omega, fun c hc => ?_⟩
                  · obtain ⟨c, hc⟩ := List.exists_mem_of_length_pos (show 0 < fm.length from okf.n1)
                    obtain ⟨s9, hs9⟩ := List.exists_mem_of_length_pos (show 0 < sc.length from oksc.n1)
                    exact List.length_pos_of_mem ((eqB _).mpr ⟨c, hc, s9, hs9, rfl⟩)
                  · have z := (bO.of c hc).1
                    have := z.r1; have := z.r2; have := z.r3; have := z.r4
                    omega
                refine ⟨_, rfl, net, _, _, rfl, hnet4, rfl, _, rfl, bl, _, rfl, Or.inl ⟨SqL.of eb4, fun tq htq => ?_⟩⟩
                have sq1 := Same.new (o := .tup (asB.map V.ref)) htq
                refine ⟨_, _, _, rfl, fun tg htg => ?_⟩
                have sg1 := Same.new (o := .tup [.str "ranked", .str "a", .ref tq, .int 0]) htg
                have L5 := L4.same (sq1.trans sg1)
                have fB : FormAt (upd (upd (upd G3 E1 (.lst [])) tq (.tup (asB.map V.ref))) tg (.tup [.str "ranked", .str "a", .ref tq, .int 0])) tq both := by
                  refine ⟨asB, sg1 _ _ upd_same, lbB, fun i9 c9 e9 => ?_⟩
                  obtain ⟨b9, w1, w2⟩ := mbB i9 c9 e9
                  exact ⟨b9, w1, sg1 _ _ (sq1 _ _ (kG4.tups _ _ w2))⟩
                have okG : OkStg (1 + k1) dp (.rnk "a" both 0) := ⟨ok_names.1, okB, okB.n1⟩
                have Og := okNt_put Of (nm := "g") ok_names.2.2.2.2.2.2.1 okG (fun p h => by rw [List.mem_singleton.mp h]; exact ⟨stg_mem.mpr ⟨_, hA7⟩, by decide +kernel⟩) (by omega)
                refine ⟨net, "g", tg, lvF, 1 + k1, dp, .rnk "a" both 0, _, rfl, by omega, L5.net, ⟨⟨tq, upd_same, fB⟩⟩, ok_names.2.2.2.2.2.2.1, okG, Og, fun Hg frg Ng => ?_⟩
                obtain ⟨Lg, kg9⟩ := L5.put frg Ng
                have kGg : Kp K G Hg := (kG4.trans (Kp.of (sq1.trans sg1))).trans kg9
                have hE8 := stg_miss (k := "g") (st := .rnk "a" both 0) (by decide) hE7
                have hF8 := stg_miss (k := "g") (st := .rnk "a" both 0) (by decide) hF7
                have hG8 : stg? (putE ef "g" (.rnk "a" both 0)) "g" = some (.rnk "a" both 0) := stg_hit
                generalize putE ef "g" (.rnk "a" both 0) = eg at Lg Og hE8 hF8 hG8
                obtain ⟨dxh, sdh, hdh, hneth, _⟩ := id Lg.net.ex
                have hwnd := kGg.tups _ _ (sG _ _ (kS.tups _ _ hwn20))
                refine ⟨_, rfl, net, _, _, rfl, hneth, rfl, _, rfl, net, "f", wn, l, u, lvF, wd, hg, 1 + k1, dp, eg, rfl, Lg.net, Og, lvF_le, stg_mem.mpr ⟨_, hF8⟩, hwnd, by omega, by omega, by omega, by omega, by omega, by omega, by omega, by omega, by omega, by omega, dp1, by omega, Lg.tb, fun Hw1 pc E1 Tw1 pic1 => ?_⟩
                have Lw1 := Lg.ext E1 Tw1
                have hnetw := E1 _ _ hneth fun ps z => by cases z
                refine ⟨_, rfl, net, _, _, rfl, hnetw, rfl, _, rfl, net, "g", wn, l, u, lvF, wd, hg, 1 + k1, dp, eg, rfl, Lw1.net, Og, lvF_le, stg_mem.mpr ⟨_, hG8⟩, (Kp.ext (K := K) E1).tups _ _ hwnd, by omega, by omega, by omega, by omega, by omega, by omega, by omega, by omega, by omega, by omega, dp1, by omega, Lw1.tb, fun Hw2 pd E2 Tw2 pic2 => ?_⟩
                have Lw2 := Lw1.ext E2 Tw2
                have same : planesOf (ev eg "f") l u wd hg (1 + k1) = planesOf (ev eg "g") l u wd hg (1 + k1) := planesOf_congr fun x y p hp => law_least Og lvF_le hE8 hF8 hG8 eqB
                rw [← same] at pic2
                have pic1 := pic1.mono (Kp.ext E2)
                obtain ⟨dc, pac, hpc, _⟩ := id pic1
                obtain ⟨dd, pad, hpd, _⟩ := id pic2
                refine ⟨pc, pd, dc, dd, _, _, rfl, rfl, hpc, hpd, pc, pd, _, rfl, pic1, pic2, fun Hz sz => ⟨rfl, ?_⟩⟩
                refine ⟨_, rfl, ?_⟩
                exact fend2 _ _ _ (Lw2.same sz)
              · exact if_false b25 (fend _ _ L4)
            · refine if_false (fun z => k0 ?_) (fend _ _ L4)
              cases kk with
              | zero => rfl
              | succ n => rw [List.replicate_succ] at z; cases z
    · obtain ⟨o2, o3, o4, o5, o6, o7, o8, o9, o10, o11, o12, o13, o14, o15, o16, o17, rfl, pn, Tn⟩ := j
      exact (q _ : Q (.bl true) G)
end
end K22
end
section
namespace K22
open PySem PySem.Spec PyProof.Rows L2
/-! ### what the head tells the walks (printed by gen_fx.py) -/
theorem tupA_ok {K : PySem.W.Frag} {a : Addr} {vs : List V} (h : tupA K a vs = true) (H : Hp) : SqT K H a vs := by
  unfold tupA at h
  cases q : K.lookup a with
  | none => rw [q] at h; cases h
  | some ob =>
    obtain ⟨cc, cd, cdt, csl⟩ := ob
    rw [q] at h
    cases cc with
    | type ty =>
      cases cdt with
      | seq items nn =>
        obtain ⟨w1, w2⟩ := He.ba (show (decide (ty = "tuple") && (decide (items.size ≤ sizeLine) && He.relAll vs items.toList)) = true from h)
        obtain ⟨w3, w4⟩ := He.ba w2
        have we := of_decide_eq_true w1
        subst we
        exact Or.inr ⟨_, items, nn, q, rfl, rfl, of_decide_eq_true w3, He.relAll_ok w4⟩
      | _ => cases h
    | _ => cases cdt <;> cases h
theorem rowB_ok {K : PySem.W.Frag} {t k : Str} {vs : List V} (h : rowB K t k vs = true) : ∃ a, PySem.W.nsIn K (He.ga K t) k = some (some (.ref a)) ∧ ∀ H, SqT K H a vs := by
  obtain ⟨w1, w2⟩ := He.ba h
  exact ⟨_, of_decide_eq_true w1, tupA_ok w2⟩
section
variable {K : PySem.W.Frag} {w : World} {h : Heap} {mg : Str → Option Value}
theorem int_glo (X : K.In h) (G : h.Ns mainGlobals mg) {x : Str} {i : Int} (c : (He.Fa.int x i).ok K = true) : Glo mg x (.int i) := by
  obtain ⟨t, e⟩ := He.int_ok X G c
  exact ⟨_, e, t, rfl⟩
theorem str_glo (X : K.In h) (G : h.Ns mainGlobals mg) {x z : Str} (c : (He.Fa.str x z).ok K = true) : Glo mg x (.str z) := by
  obtain ⟨t, e⟩ := He.str_ok X G c
  exact ⟨_, e, t, rfl⟩
theorem ref_glo (X : K.In h) (G : h.Ns mainGlobals mg) {x : Str} (c : (He.Fa.glo x).ok K = true) : Glo mg x (.ref (He.ga K x)) := ⟨_, He.glo_ok X G c, rfl⟩
theorem fx_of (X : K.In h) (G : h.Ns mainGlobals mg) (c : He.SaysX fas fns tbs tfs exb w h K) : Fx K mg w := by
  have d := c.t.d
  have m : exb K = true := c.more
  unfold exb at m
  obtain ⟨x0, m⟩ := He.ba m
  obtain ⟨x1, m⟩ := He.ba m
  obtain ⟨x2, m⟩ := He.ba m
  obtain ⟨x3, m⟩ := He.ba m
  obtain ⟨x4, m⟩ := He.ba m
  obtain ⟨x5, m⟩ := He.ba m
  obtain ⟨x6, m⟩ := He.ba m
  obtain ⟨x7, m⟩ := He.ba m
  obtain ⟨x8, m⟩ := He.ba m
  obtain ⟨x9, m⟩ := He.ba m
  obtain ⟨x10, m⟩ := He.ba m
  obtain ⟨x11, m⟩ := He.ba m
  obtain ⟨x12, m⟩ := He.ba m
  obtain ⟨x13, m⟩ := He.ba m
  obtain ⟨x14, m⟩ := He.ba m
  exact {
    g_LONGEST_NAME := int_glo X G (d.fact 72 (f := .int "LONGEST_NAME" 8) rfl)
    g_FARTHEST := int_glo X G (d.fact 73 (f := .int "FARTHEST" 1000) rfl)
    g_WIDEST := int_glo X G (d.fact 74 (f := .int "WIDEST" 48) rfl)
    g_MOST_PLANES := int_glo X G (d.fact 75 (f := .int "MOST_PLANES" 4) rfl)
    g_DEEPEST := int_glo X G (d.fact 76 (f := .int "DEEPEST" 65535) rfl)
    g_MOST_PLACES := int_glo X G (d.fact 77 (f := .int "MOST_PLACES" 25) rfl)
    g_FARTHEST_PLACE := int_glo X G (d.fact 78 (f := .int "FARTHEST_PLACE" 4) rfl)
    g_MOST_STAGES := int_glo X G (d.fact 79 (f := .int "MOST_STAGES" 24) rfl)
    g_LETTERS := str_glo X G (d.fact 80 (f := .str "LETTERS" "abcdefghijklmnopqrstuvwxyz") rfl)
    g_NEAR := str_glo X G (d.fact 81 (f := .str "NEAR" "near") rfl)
    g_WRAPPED := str_glo X G (d.fact 82 (f := .str "WRAPPED" "wrapped") rfl)
    g_MIRRORED := str_glo X G (d.fact 83 (f := .str "MIRRORED" "mirrored") rfl)
    c_Picture := ref_glo X G (d.fact 49 (f := .glo "Picture") rfl)
    c_Net := ref_glo X G (d.fact 50 (f := .glo "Net") rfl)
    c_GEOMETRY := ref_glo X G (d.fact 51 (f := .glo "GEOMETRY") rfl)
    c_COLOURS := ref_glo X G (d.fact 52 (f := .glo "COLOURS") rfl)
    c_FILTERS := ref_glo X G (d.fact 53 (f := .glo "FILTERS") rfl)
    c_TABLES := ref_glo X G (d.fact 54 (f := .glo "TABLES") rfl)
    c_PLACES_OF_BY := ref_glo X G (d.fact 55 (f := .glo "PLACES_OF_BY") rfl)
    c_BORDERS := ref_glo X G (d.fact 56 (f := .glo "BORDERS") rfl)
    f_len := He.free_ok X G (d.fact 57 (f := .free "len") rfl)
    f_isinstance := He.free_ok X G (d.fact 58 (f := .free "isinstance") rfl)
    f_all := He.free_ok X G (d.fact 59 (f := .free "all") rfl)
    f_range := He.free_ok X G (d.fact 60 (f := .free "range") rfl)
    f_tuple := He.free_ok X G (d.fact 61 (f := .free "tuple") rfl)
    f_list := He.free_ok X G (d.fact 62 (f := .free "list") rfl)
    f_dict := He.free_ok X G (d.fact 63 (f := .free "dict") rfl)
    f_set := He.free_ok X G (d.fact 64 (f := .free "set") rfl)
    f_sorted := He.free_ok X G (d.fact 65 (f := .free "sorted") rfl)
    f_max := He.free_ok X G (d.fact 66 (f := .free "max") rfl)
    f_min := He.free_ok X G (d.fact 67 (f := .free "min") rfl)
    f_abs := He.free_ok X G (d.fact 68 (f := .free "abs") rfl)
    f_int := He.free_ok X G (d.fact 69 (f := .free "int") rfl)
    f_str := He.free_ok X G (d.fact 70 (f := .free "str") rfl)
    f_bool := He.free_ok X G (d.fact 71 (f := .free "bool") rfl)
    d_is_whole := ⟨d.def_ 0 (d := d_is_whole) rfl, He.glo_ok X G (d.fact 0 (f := .glo "is_whole") rfl)⟩
    d_is_from := ⟨d.def_ 1 (d := d_is_from) rfl, He.glo_ok X G (d.fact 1 (f := .glo "is_from") rfl)⟩
    d_is_name := ⟨d.def_ 2 (d := d_is_name) rfl, He.glo_ok X G (d.fact 2 (f := .glo "is_name") rfl)⟩
    d_are_wholes := ⟨d.def_ 3 (d := d_are_wholes) rfl, He.glo_ok X G (d.fact 3 (f := .glo "are_wholes") rfl)⟩
    d_are_rows := ⟨d.def_ 4 (d := d_are_rows) rfl, He.glo_ok X G (d.fact 4 (f := .glo "are_rows") rfl)⟩
    d_is_window := ⟨d.def_ 5 (d := d_is_window) rfl, He.glo_ok X G (d.fact 5 (f := .glo "is_window") rfl)⟩
    d_lies_in := ⟨d.def_ 6 (d := d_lies_in) rfl, He.glo_ok X G (d.fact 6 (f := .glo "lies_in") rfl)⟩
    d_are_planes := ⟨d.def_ 7 (d := d_are_planes) rfl, He.glo_ok X G (d.fact 7 (f := .glo "are_planes") rfl)⟩
    d_source := ⟨d.def_ 8 (d := d_source) rfl, He.glo_ok X G (d.fact 8 (f := .glo "source") rfl)⟩
    d_curved := ⟨d.def_ 9 (d := d_curved) rfl, He.glo_ok X G (d.fact 9 (f := .glo "curved") rfl)⟩
    d_ranked := ⟨d.def_ 10 (d := d_ranked) rfl, He.glo_ok X G (d.fact 10 (f := .glo "ranked") rfl)⟩
    d_is_border := ⟨d.def_ 11 (d := d_is_border) rfl, He.glo_ok X G (d.fact 11 (f := .glo "is_border") rfl)⟩
    d_folded_one := ⟨d.def_ 12 (d := d_folded_one) rfl, He.glo_ok X G (d.fact 12 (f := .glo "folded_one") rfl)⟩
    d_folded := ⟨d.def_ 13 (d := d_folded) rfl, He.glo_ok X G (d.fact 13 (f := .glo "folded") rfl)⟩
    d_must_fit_border := ⟨d.def_ 14 (d := d_must_fit_border) rfl, He.glo_ok X G (d.fact 14 (f := .glo "must_fit_border") rfl)⟩
    d_is_source := ⟨d.def_ 15 (d := d_is_source) rfl, He.glo_ok X G (d.fact 15 (f := .glo "is_source") rfl)⟩
    d_shape_of_source := ⟨d.def_ 16 (d := d_shape_of_source) rfl, He.glo_ok X G (d.fact 16 (f := .glo "shape_of_source") rfl)⟩
    d_tell_source := ⟨d.def_ 17 (d := d_tell_source) rfl, He.glo_ok X G (d.fact 17 (f := .glo "tell_source") rfl)⟩
    d_same_shape := ⟨d.def_ 18 (d := d_same_shape) rfl, He.glo_ok X G (d.fact 18 (f := .glo "same_shape") rfl)⟩
    d_is_curved := ⟨d.def_ 19 (d := d_is_curved) rfl, He.glo_ok X G (d.fact 19 (f := .glo "is_curved") rfl)⟩
    d_shape_of_curved := ⟨d.def_ 20 (d := d_shape_of_curved) rfl, He.glo_ok X G (d.fact 20 (f := .glo "shape_of_curved") rfl)⟩
    d_tell_curved := ⟨d.def_ 21 (d := d_tell_curved) rfl, He.glo_ok X G (d.fact 21 (f := .glo "tell_curved") rfl)⟩
    d_is_form := ⟨d.def_ 22 (d := d_is_form) rfl, He.glo_ok X G (d.fact 22 (f := .glo "is_form") rfl)⟩
    d_is_ranked := ⟨d.def_ 23 (d := d_is_ranked) rfl, He.glo_ok X G (d.fact 23 (f := .glo "is_ranked") rfl)⟩
    d_cells_of_ranked := ⟨d.def_ 24 (d := d_cells_of_ranked) rfl, He.glo_ok X G (d.fact 24 (f := .glo "cells_of_ranked") rfl)⟩
    d_tell_ranked := ⟨d.def_ 25 (d := d_tell_ranked) rfl, He.glo_ok X G (d.fact 25 (f := .glo "tell_ranked") rfl)⟩
    d_row_of := ⟨d.def_ 26 (d := d_row_of) rfl, He.glo_ok X G (d.fact 26 (f := .glo "row_of") rfl)⟩
    d_is_stage := ⟨d.def_ 27 (d := d_is_stage) rfl, He.glo_ok X G (d.fact 27 (f := .glo "is_stage") rfl)⟩
    d_has_no_divisor := ⟨d.def_ 28 (d := d_has_no_divisor) rfl, He.glo_ok X G (d.fact 28 (f := .glo "has_no_divisor") rfl)⟩
    d_made_of := ⟨d.def_ 29 (d := d_made_of) rfl, He.glo_ok X G (d.fact 29 (f := .glo "made_of") rfl)⟩
    d_shape_by := ⟨d.def_ 30 (d := d_shape_by) rfl, He.glo_ok X G (d.fact 30 (f := .glo "shape_by") rfl)⟩
    d_told_by := ⟨d.def_ 31 (d := d_told_by) rfl, He.glo_ok X G (d.fact 31 (f := .glo "told_by") rfl)⟩
    d_first_missing := ⟨d.def_ 32 (d := d_first_missing) rfl, He.glo_ok X G (d.fact 32 (f := .glo "first_missing") rfl)⟩
    d_in_order := ⟨d.def_ 33 (d := d_in_order) rfl, He.glo_ok X G (d.fact 33 (f := .glo "in_order") rfl)⟩
    d_shapes_of := ⟨d.def_ 34 (d := d_shapes_of) rfl, He.glo_ok X G (d.fact 34 (f := .glo "shapes_of") rfl)⟩
    d_numbers_at := ⟨d.def_ 35 (d := d_numbers_at) rfl, He.glo_ok X G (d.fact 35 (f := .glo "numbers_at") rfl)⟩
    d_planes_by := ⟨d.def_ 36 (d := d_planes_by) rfl, He.glo_ok X G (d.fact 36 (f := .glo "planes_by") rfl)⟩
    d_must_be_there := ⟨d.def_ 37 (d := d_must_be_there) rfl, He.glo_ok X G (d.fact 37 (f := .glo "must_be_there") rfl)⟩
    d_must_be_window := ⟨d.def_ 38 (d := d_must_be_window) rfl, He.glo_ok X G (d.fact 38 (f := .glo "must_be_window") rfl)⟩
    d_law_pen := ⟨d.def_ 39 (d := d_law_pen) rfl, He.glo_ok X G (d.fact 39 (f := .glo "_law_pen") rfl)⟩
    d_law_draw := ⟨d.def_ 40 (d := d_law_draw) rfl, He.glo_ok X G (d.fact 40 (f := .glo "_law_draw") rfl)⟩
    d_law_planes := ⟨d.def_ 41 (d := d_law_planes) rfl, He.glo_ok X G (d.fact 41 (f := .glo "_law_planes") rfl)⟩
    d_law_picture := ⟨d.def_ 42 (d := d_law_picture) rfl, He.glo_ok X G (d.fact 42 (f := .glo "_law_picture") rfl)⟩
    d_law_border := ⟨d.def_ 43 (d := d_law_border) rfl, He.glo_ok X G (d.fact 43 (f := .glo "_law_border") rfl)⟩
    d_law_window := ⟨d.def_ 44 (d := d_law_window) rfl, He.glo_ok X G (d.fact 44 (f := .glo "_law_window") rfl)⟩
    d_law_form := ⟨d.def_ 45 (d := d_law_form) rfl, He.glo_ok X G (d.fact 45 (f := .glo "_law_form") rfl)⟩
    d_law_sorted_table := ⟨d.def_ 46 (d := d_law_sorted_table) rfl, He.glo_ok X G (d.fact 46 (f := .glo "_law_sorted_table") rfl)⟩
    d_law_within := ⟨d.def_ 47 (d := d_law_within) rfl, He.glo_ok X G (d.fact 47 (f := .glo "_law_within") rfl)⟩
    d_law := ⟨d.def_ 48 (d := d_law) rfl, He.glo_ok X G (d.fact 48 (f := .glo "law") rfl)⟩
    dPicture_init := d.def_ 49 (d := dPicture_init) rfl
    dPicture_window := d.def_ 50 (d := dPicture_window) rfl
    dPicture_at := d.def_ 51 (d := dPicture_at) rfl
    dPicture_eq := d.def_ 52 (d := dPicture_eq) rfl
    dNet_init := d.def_ 53 (d := dNet_init) rfl
    dNet_put := d.def_ 54 (d := dNet_put) rfl
    dNet_whole := d.def_ 55 (d := dNet_whole) rfl
    cl_Picture := He.cls_ok (d.fact 84 (f := .cls "Picture") rfl)
    mk_Picture := He.mkr_ok (d.fact 86 (f := .mkr "Picture") rfl)
    cl_Net := He.cls_ok (d.fact 85 (f := .cls "Net") rfl)
    mk_Net := He.mkr_ok (d.fact 87 (f := .mkr "Net") rfl)
    na_planes := He.noat_ok (d.fact 88 (f := .noat "Picture" "planes") rfl)
    na_left := He.noat_ok (d.fact 89 (f := .noat "Picture" "left") rfl)
    na_up := He.noat_ok (d.fact 90 (f := .noat "Picture" "up") rfl)
    na_depth := He.noat_ok (d.fact 91 (f := .noat "Picture" "depth") rfl)
    na_stages := He.noat_ok (d.fact 92 (f := .noat "Net" "stages") rfl)
    na_shapes := He.noat_ok (d.fact 93 (f := .noat "Net" "shapes") rfl)
    me_window := He.meth_ok (d.fact 94 (f := .meth "Picture" "window") rfl)
    me_at := He.meth_ok (d.fact 95 (f := .meth "Picture" "at") rfl)
    me_eq := He.meth_ok (d.fact 96 (f := .meth "Picture" "__eq__") rfl)
    me_put := He.meth_ok (d.fact 97 (f := .meth "Net" "put") rfl)
    me_whole := He.meth_ok (d.fact 98 (f := .meth "Net" "whole") rfl)
    pic := ⟨He.cls_ok (d.fact 84 (f := .cls "Picture") rfl), of_decide_eq_true x11, of_decide_eq_true x12, of_decide_eq_true x13, of_decide_eq_true x14, of_decide_eq_true x10⟩
    ne_ := of_decide_eq_true m
    TABLES_ := fun H => He.tupB_ok x0 H
    BORDERS_ := fun H => He.tupB_ok x1 H
    row_source := rowB_ok x2
    row_curved := rowB_ok x3
    row_ranked := rowB_ok x4
    no_GEOMETRY := of_decide_eq_true x5
    no_COLOURS := of_decide_eq_true x6
    by_source := of_decide_eq_true x7
    by_curved := of_decide_eq_true x8
    by_ranked := of_decide_eq_true x9
    kd_GEOMETRY := c.t.tab 0
    kd_COLOURS := c.t.tab 1
    kd_FILTERS := c.t.tab 2
    kd_PLACES_OF_BY := c.t.tab 3
  }
end
end K22
end
section
namespace K22
open PySem PySem.Spec PyProof.Rows L2 LamX NdefX
/-! ### the end -/
theorem lawAt {P : Program} {w : World} {K : PySem.W.Frag} {h : Heap} {mg : Str → Option Value} {f : Addr} (X : K.In h) (G : h.Ns mainGlobals mg) (hfa : mg ("law" : Str) = some (.ref f)) (c : He.SaysX fas fns tbs tfs exb w h K) :
    ∃ fd : FuncData, (∀ (s : Shared) (v : Value), BindsTo s fd ⟨[v], []⟩ [("_law_script", v)]) ∧ ∀ base : Heap, K.In base → base.Ns mainGlobals mg → (∀ p ∈ tfs.map (He.cT K), TabB base mg p.1 p.2) → FnOk P w K mg base CX0 24 f fd ["_law_script"] (spLaw K) := by
  have T := fx_of X G c
  obtain ⟨⟨fd, F⟩, hm⟩ := T.d_law
  have ef := hm.symm.trans hfa
  cases ef
  have b := FunD.bindsA (ps := ["_law_script"]) F fun _ _ _ _ _ _ us hl => match us, hl with | [_], _ => rfl
  exact ⟨fd, fun s v => b s [v] rfl, fun base _ _ tt => ok_law F T (tt (He.cT K ("numbers_at", none)) (List.mem_cons_self)) (tt (He.cT K ("Net", some "whole")) (List.mem_cons_of_mem _ List.mem_cons_self))⟩
end K22
open PySem PySem.W PySem.Calls PyProof.Rows
theorem PySem.Challenge.cw_pixelstages_k22_whole_ranks_and_tables_holds : PySem.Challenge.rw_pixelstages_k22_whole_ranks_and_tables.Holds := by
  w_on; o_law
  refine HandSHeadRun.head_any (r := OpenLaw.row PySem.Challenge.rw_pixelstages_k22_whole_ranks_and_tables) (q := view (OpenLaw.row PySem.Challenge.rw_pixelstages_k22_whole_ranks_and_tables).prog [177]) (H := K22.hk) (ob := K22.ob) (M := 9000) (loose := K22.lss)
    (d := HandSHeadRun.topDef (OpenLaw.row PySem.Challenge.rw_pixelstages_k22_whole_ranks_and_tables).prog 177) (kwd := []) K22.ob_eq
    (by kernel_rfl) (fun s => by kernel_rfl) K22.run22 (by kernel_rfl) (by kernel_rfl) (by kernel_rfl) (by rfl) (by first | assumption | decide +kernel) (by decide +kernel) ⟨rfl, rfl, rfl, rfl, rfl, by decide +kernel⟩ ?hw ?hc
  case hw => w_witness2
  case hc =>
    refine LamX.walk_ofTsE (l := PySem.Challenge.rw_pixelstages_k22_whole_ranks_and_tables) (n := 63) (k := 24) (x := "_law_script") (CX := fun _ => L2.CX0) rfl (by decide) (by kernel_rfl) ⟨rfl, by decide, by decide⟩ ?F (fun _ _ _ _ _ z => z)
    intro w mg fa h Y G hmg0
    obtain ⟨K, KX, c⟩ := Y
    have hmg : mg ("law" : PySem.Str) = some (.ref fa) := by
      have e : (HandSHeadRun.topDef (OpenLaw.row PySem.Challenge.rw_pixelstages_k22_whole_ranks_and_tables).prog 177).name = ("law" : PySem.Str) := by kernel_rfl
      rw [← e]
      exact hmg0
    obtain ⟨fd, hb, hF⟩ := K22.lawAt (P := (PySem.Challenge.rw_pixelstages_k22_whole_ranks_and_tables).prog) (w := w) KX G hmg c
    refine ⟨K, KX, fd, K22.tfs.map (He.cT K), K22.spLaw K, fun p hp => ?_, fun p hp => ?_, fun p hp => ?_, hb, fun H a ns hl _ ht hS => ⟨a, ns, rfl, hS, fun p hp => ?_, fun _ => rfl⟩, hF⟩
    · obtain ⟨q, hq, rfl⟩ := List.mem_map.mp hp
      exact c.empty q hq
    · obtain ⟨q, hq, rfl⟩ := List.mem_map.mp hp
      exact c.out q hq
    · obtain ⟨q, hq, rfl⟩ := List.mem_map.mp hp
      exact codeHd_of_K KX (c.hd q hq)
    · rcases List.mem_cons.mp hp with e | e
      · rw [e]
        exact NdefX.TabN.nil (ht (He.cT K ("numbers_at", none)) List.mem_cons_self)
      · rw [List.mem_singleton.mp e]
        exact NdefX.TabN.nil (ht (He.cT K ("Net", some "whole")) (List.mem_cons_of_mem _ List.mem_cons_self))
end
