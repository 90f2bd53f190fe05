import PyProof.Rows.All
import Wide.All
import OpenK.AllK
import Wide.FinOn
import KE.KStateDown
import Lean
import HandS.ForMost
import HandS.Defaults
import HandS.Codes
import HandS.Head0
import HandS.Head1
import HandS.Head2
import HandS.HeadEnd
import HandS.HeadHook1
import HandS.HeadHook2
import PySem.Challenge.RW_deedranks_k09_whole_plats_divided_and_un
import HandS.Walk
import HandS.Deep
import HandS.IsInst
import HandS.Conv
import HandS.NoneIn
import HandS.More
import HandS.DictComp
import HandS.OwnEq
import HandS.MakeKwOnly
import KE.KDictDisplayH
import PyProof.InstNe
import KE.GoesMore
import KE.GoesEnum
import PyProof.Rows.SortKeyStr
import KE.KSortTup
import KE.KSortTupAny
import HandS.Sort
import KE.KDictPairs
import HandS.Set
import HandS.SetBool
import HandS.Strs
import HandS.SetFor
import PyProof.Rows.SortShellAny
import PyProof.ListStr
import HandS.TupLen
import HandS.SortRule
import HandS.Style
import HandS.Ends
import HandS.Zip
section
set_option Elab.async false
set_option linter.all false
set_option maxRecDepth 100000
set_option maxHeartbeats 0
namespace K9
open PySem PySem.Spec PyProof.Rows L2
def top (i : Nat) : Stmt := PySem.Challenge.pw_deedranks_k09_whole_plats_divided_and_un.main.body.getD i (.Pass ⟨0, 0, 0, 0⟩)
abbrev s_is_whole : Stmt := top 15
abbrev s_is_number : Stmt := top 16
abbrev s_is_name : Stmt := top 17
abbrev s_is_cell : Stmt := top 20
abbrev s_beside : Stmt := top 21
abbrev s_check_cells : Stmt := top 23
abbrev s_group_of : Stmt := top 24
abbrev s_groups : Stmt := top 25
abbrev s_hangs_together : Stmt := top 26
abbrev s_pieces : Stmt := top 27
abbrev s_side_count : Stmt := top 28
abbrev s_is_list : Stmt := top 32
abbrev s_check_rows : Stmt := top 33
abbrev s_parcels_of : Stmt := top 34
abbrev s_is_edge : Stmt := top 35
abbrev s_check_road : Stmt := top 36
abbrev s_check_part : Stmt := top 37
abbrev s_borders_of : Stmt := top 38
abbrev s_P_init : Stmt := inClass (top 39) 1
abbrev s_P_rows : Stmt := inClass (top 39) 2
abbrev s_P_road : Stmt := inClass (top 39) 3
abbrev s_P_names : Stmt := inClass (top 39) 4
abbrev s_P_area : Stmt := inClass (top 39) 7
abbrev s_P_outline : Stmt := inClass (top 39) 9
abbrev s_P_border : Stmt := inClass (top 39) 14
abbrev s_P_divided : Stmt := inClass (top 39) 15
abbrev s_P_united : Stmt := inClass (top 39) 16
abbrev s_P_need_parcel : Stmt := inClass (top 39) 19
abbrev s_P_eq : Stmt := inClass (top 39) 21
abbrev s_P_len : Stmt := inClass (top 39) 22
abbrev s_L_law_bag : Stmt := top 41
abbrev s_L_law_draw : Stmt := top 42
abbrev s_L_law_pick : Stmt := top 43
abbrev s_L_law_mixed : Stmt := top 44
abbrev s_L_law_word : Stmt := top 45
abbrev s_L_law_names : Stmt := top 46
abbrev s_L_law_same : Stmt := top 47
abbrev s_L_law_is_word : Stmt := top 48
abbrev s_L_law_whole : Stmt := top 49
abbrev s_L_law_four : Stmt := top 50
abbrev s_L_law_is_spot : Stmt := top 51
abbrev s_L_law_reach : Stmt := top 52
abbrev s_L_law_groups : Stmt := top 53
abbrev s_L_law_all_cells : Stmt := top 54
abbrev s_L_law_sizes : Stmt := top 55
abbrev s_L_law_sides : Stmt := top 56
abbrev s_L_law_grown : Stmt := top 57
abbrev s_L_law_edge : Stmt := top 58
abbrev s_L_law_map : Stmt := top 59
abbrev s_L_law_made : Stmt := top 60
abbrev s_L_law_named : Stmt := top 61
abbrev s_L_law_cells_of : Stmt := top 62
abbrev s_L_law_possible : Stmt := top 63
abbrev s_L_law_row_fault : Stmt := top 64
abbrev s_L_law_plat_fault : Stmt := top 65
abbrev s_L_law_hangs : Stmt := top 66
abbrev s_L_law_part_of : Stmt := top 67
abbrev s_L_law_named_anew : Stmt := top 68
abbrev s_L_law_fresh : Stmt := top 69
abbrev s_L_law_divided_so : Stmt := top 70
abbrev s_law : Stmt := top 71
end K9
namespace K9H
open PySem PySem.Spec PyProof.Rows L2 K9
def d_is_whole : He.DefD := ⟨("is_whole", none), "is_whole", "is_whole", defArgs s_is_whole, defBody s_is_whole, defScope s_is_whole, [], []⟩
def d_is_number : He.DefD := ⟨("is_number", none), "is_number", "is_number", defArgs s_is_number, defBody s_is_number, defScope s_is_number, [], []⟩
def d_is_name : He.DefD := ⟨("is_name", none), "is_name", "is_name", defArgs s_is_name, defBody s_is_name, defScope s_is_name, [], []⟩
def d_is_cell : He.DefD := ⟨("is_cell", none), "is_cell", "is_cell", defArgs s_is_cell, defBody s_is_cell, defScope s_is_cell, [], []⟩
def d_beside : He.DefD := ⟨("beside", none), "beside", "beside", defArgs s_beside, defBody s_beside, defScope s_beside, [], []⟩
def d_check_cells : He.DefD := ⟨("check_cells", none), "check_cells", "check_cells", defArgs s_check_cells, defBody s_check_cells, defScope s_check_cells, [], []⟩
def d_group_of : He.DefD := ⟨("group_of", none), "group_of", "group_of", defArgs s_group_of, defBody s_group_of, defScope s_group_of, [], []⟩
def d_groups : He.DefD := ⟨("groups", none), "groups", "groups", defArgs s_groups, defBody s_groups, defScope s_groups, [], []⟩
def d_hangs_together : He.DefD := ⟨("hangs_together", none), "hangs_together", "hangs_together", defArgs s_hangs_together, defBody s_hangs_together, defScope s_hangs_together, [], []⟩
def d_pieces : He.DefD := ⟨("pieces", none), "pieces", "pieces", defArgs s_pieces, defBody s_pieces, defScope s_pieces, [], []⟩
def d_side_count : He.DefD := ⟨("side_count", none), "side_count", "side_count", defArgs s_side_count, defBody s_side_count, defScope s_side_count, [], []⟩
def d_is_list : He.DefD := ⟨("is_list", none), "is_list", "is_list", defArgs s_is_list, defBody s_is_list, defScope s_is_list, [], []⟩
def d_check_rows : He.DefD := ⟨("check_rows", none), "check_rows", "check_rows", defArgs s_check_rows, defBody s_check_rows, defScope s_check_rows, [], []⟩
def d_parcels_of : He.DefD := ⟨("parcels_of", none), "parcels_of", "parcels_of", defArgs s_parcels_of, defBody s_parcels_of, defScope s_parcels_of, [], []⟩
def d_is_edge : He.DefD := ⟨("is_edge", none), "is_edge", "is_edge", defArgs s_is_edge, defBody s_is_edge, defScope s_is_edge, [], []⟩
def d_check_road : He.DefD := ⟨("check_road", none), "check_road", "check_road", defArgs s_check_road, defBody s_check_road, defScope s_check_road, [], []⟩
def d_check_part : He.DefD := ⟨("check_part", none), "check_part", "check_part", defArgs s_check_part, defBody s_check_part, defScope s_check_part, [], []⟩
def d_borders_of : He.DefD := ⟨("borders_of", none), "borders_of", "borders_of", defArgs s_borders_of, defBody s_borders_of, defScope s_borders_of, [], []⟩
def d_P_init : He.DefD := ⟨("Plat", some "__init__"), "__init__", "Plat.__init__", defArgs s_P_init, defBody s_P_init, defScope s_P_init, [], []⟩
def d_P_rows : He.DefD := ⟨("Plat", some "rows"), "rows", "Plat.rows", defArgs s_P_rows, defBody s_P_rows, defScope s_P_rows, [], []⟩
def d_P_road : He.DefD := ⟨("Plat", some "road"), "road", "Plat.road", defArgs s_P_road, defBody s_P_road, defScope s_P_road, [], []⟩
def d_P_names : He.DefD := ⟨("Plat", some "names"), "names", "Plat.names", defArgs s_P_names, defBody s_P_names, defScope s_P_names, [], []⟩
def d_P_area : He.DefD := ⟨("Plat", some "area"), "area", "Plat.area", defArgs s_P_area, defBody s_P_area, defScope s_P_area, [], []⟩
def d_P_outline : He.DefD := ⟨("Plat", some "outline"), "outline", "Plat.outline", defArgs s_P_outline, defBody s_P_outline, defScope s_P_outline, [], []⟩
def d_P_border : He.DefD := ⟨("Plat", some "border"), "border", "Plat.border", defArgs s_P_border, defBody s_P_border, defScope s_P_border, [], []⟩
def d_P_divided : He.DefD := ⟨("Plat", some "divided"), "divided", "Plat.divided", defArgs s_P_divided, defBody s_P_divided, defScope s_P_divided, [], []⟩
def d_P_united : He.DefD := ⟨("Plat", some "united"), "united", "Plat.united", defArgs s_P_united, defBody s_P_united, defScope s_P_united, [], []⟩
def d_P_need_parcel : He.DefD := ⟨("Plat", some "need_parcel"), "need_parcel", "Plat.need_parcel", defArgs s_P_need_parcel, defBody s_P_need_parcel, defScope s_P_need_parcel, [], []⟩
def d_P_eq : He.DefD := ⟨("Plat", some "__eq__"), "__eq__", "Plat.__eq__", defArgs s_P_eq, defBody s_P_eq, defScope s_P_eq, [], []⟩
def d_P_len : He.DefD := ⟨("Plat", some "__len__"), "__len__", "Plat.__len__", defArgs s_P_len, defBody s_P_len, defScope s_P_len, [], []⟩
def d_L_law_bag : He.DefD := ⟨("_law_bag", none), "_law_bag", "_law_bag", defArgs s_L_law_bag, defBody s_L_law_bag, defScope s_L_law_bag, [], []⟩
def d_L_law_draw : He.DefD := ⟨("_law_draw", none), "_law_draw", "_law_draw", defArgs s_L_law_draw, defBody s_L_law_draw, defScope s_L_law_draw, [], []⟩
def d_L_law_pick : He.DefD := ⟨("_law_pick", none), "_law_pick", "_law_pick", defArgs s_L_law_pick, defBody s_L_law_pick, defScope s_L_law_pick, [], []⟩
def d_L_law_mixed : He.DefD := ⟨("_law_mixed", none), "_law_mixed", "_law_mixed", defArgs s_L_law_mixed, defBody s_L_law_mixed, defScope s_L_law_mixed, [], []⟩
def d_L_law_word : He.DefD := ⟨("_law_word", none), "_law_word", "_law_word", defArgs s_L_law_word, defBody s_L_law_word, defScope s_L_law_word, [], []⟩
def d_L_law_names : He.DefD := ⟨("_law_names", none), "_law_names", "_law_names", defArgs s_L_law_names, defBody s_L_law_names, defScope s_L_law_names, [], []⟩
def d_L_law_same : He.DefD := ⟨("_law_same", none), "_law_same", "_law_same", defArgs s_L_law_same, defBody s_L_law_same, defScope s_L_law_same, [], []⟩
def d_L_law_is_word : He.DefD := ⟨("_law_is_word", none), "_law_is_word", "_law_is_word", defArgs s_L_law_is_word, defBody s_L_law_is_word, defScope s_L_law_is_word, [], []⟩
def d_L_law_whole : He.DefD := ⟨("_law_whole", none), "_law_whole", "_law_whole", defArgs s_L_law_whole, defBody s_L_law_whole, defScope s_L_law_whole, [], []⟩
def d_L_law_four : He.DefD := ⟨("_law_four", none), "_law_four", "_law_four", defArgs s_L_law_four, defBody s_L_law_four, defScope s_L_law_four, [], []⟩
def d_L_law_is_spot : He.DefD := ⟨("_law_is_spot", none), "_law_is_spot", "_law_is_spot", defArgs s_L_law_is_spot, defBody s_L_law_is_spot, defScope s_L_law_is_spot, [], []⟩
def d_L_law_reach : He.DefD := ⟨("_law_reach", none), "_law_reach", "_law_reach", defArgs s_L_law_reach, defBody s_L_law_reach, defScope s_L_law_reach, [], []⟩
def d_L_law_groups : He.DefD := ⟨("_law_groups", none), "_law_groups", "_law_groups", defArgs s_L_law_groups, defBody s_L_law_groups, defScope s_L_law_groups, [], []⟩
def d_L_law_all_cells : He.DefD := ⟨("_law_all_cells", none), "_law_all_cells", "_law_all_cells", defArgs s_L_law_all_cells, defBody s_L_law_all_cells, defScope s_L_law_all_cells, [], []⟩
def d_L_law_sizes : He.DefD := ⟨("_law_sizes", none), "_law_sizes", "_law_sizes", defArgs s_L_law_sizes, defBody s_L_law_sizes, defScope s_L_law_sizes, [], []⟩
def d_L_law_sides : He.DefD := ⟨("_law_sides", none), "_law_sides", "_law_sides", defArgs s_L_law_sides, defBody s_L_law_sides, defScope s_L_law_sides, [], []⟩
def d_L_law_grown : He.DefD := ⟨("_law_grown", none), "_law_grown", "_law_grown", defArgs s_L_law_grown, defBody s_L_law_grown, defScope s_L_law_grown, [], []⟩
def d_L_law_edge : He.DefD := ⟨("_law_edge", none), "_law_edge", "_law_edge", defArgs s_L_law_edge, defBody s_L_law_edge, defScope s_L_law_edge, [], []⟩
def d_L_law_map : He.DefD := ⟨("_law_map", none), "_law_map", "_law_map", defArgs s_L_law_map, defBody s_L_law_map, defScope s_L_law_map, [], []⟩
def d_L_law_made : He.DefD := ⟨("_law_made", none), "_law_made", "_law_made", defArgs s_L_law_made, defBody s_L_law_made, defScope s_L_law_made, [], []⟩
def d_L_law_named : He.DefD := ⟨("_law_named", none), "_law_named", "_law_named", defArgs s_L_law_named, defBody s_L_law_named, defScope s_L_law_named, [], []⟩
def d_L_law_cells_of : He.DefD := ⟨("_law_cells_of", none), "_law_cells_of", "_law_cells_of", defArgs s_L_law_cells_of, defBody s_L_law_cells_of, defScope s_L_law_cells_of, [], []⟩
def d_L_law_possible : He.DefD := ⟨("_law_possible", none), "_law_possible", "_law_possible", defArgs s_L_law_possible, defBody s_L_law_possible, defScope s_L_law_possible, [], []⟩
def d_L_law_row_fault : He.DefD := ⟨("_law_row_fault", none), "_law_row_fault", "_law_row_fault", defArgs s_L_law_row_fault, defBody s_L_law_row_fault, defScope s_L_law_row_fault, [], []⟩
def d_L_law_plat_fault : He.DefD := ⟨("_law_plat_fault", none), "_law_plat_fault", "_law_plat_fault", defArgs s_L_law_plat_fault, defBody s_L_law_plat_fault, defScope s_L_law_plat_fault, [], []⟩
def d_L_law_hangs : He.DefD := ⟨("_law_hangs", none), "_law_hangs", "_law_hangs", defArgs s_L_law_hangs, defBody s_L_law_hangs, defScope s_L_law_hangs, [], []⟩
def d_L_law_part_of : He.DefD := ⟨("_law_part_of", none), "_law_part_of", "_law_part_of", defArgs s_L_law_part_of, defBody s_L_law_part_of, defScope s_L_law_part_of, [], []⟩
def d_L_law_named_anew : He.DefD := ⟨("_law_named_anew", none), "_law_named_anew", "_law_named_anew", defArgs s_L_law_named_anew, defBody s_L_law_named_anew, defScope s_L_law_named_anew, [], []⟩
def d_L_law_fresh : He.DefD := ⟨("_law_fresh", none), "_law_fresh", "_law_fresh", defArgs s_L_law_fresh, defBody s_L_law_fresh, defScope s_L_law_fresh, [], []⟩
def d_L_law_divided_so : He.DefD := ⟨("_law_divided_so", none), "_law_divided_so", "_law_divided_so", defArgs s_L_law_divided_so, defBody s_L_law_divided_so, defScope s_L_law_divided_so, [], []⟩
def d_law : He.DefD := ⟨("law", none), "law", "law", defArgs s_law, defBody s_law, defScope s_law, [], []⟩
def fn0 : List He.DefD := [d_is_whole, d_is_number, d_is_name, d_is_cell, d_beside, d_check_cells, d_group_of, d_groups, d_hangs_together, d_pieces, d_side_count, d_is_list, d_check_rows, d_parcels_of, d_is_edge, d_check_road, d_check_part, d_borders_of, d_P_init, d_P_rows, d_P_road, d_P_names, d_P_area, d_P_outline, d_P_border, d_P_divided, d_P_united, d_P_need_parcel, d_P_eq, d_P_len]
def fn1 : List He.DefD := [d_L_law_bag, d_L_law_draw, d_L_law_pick, d_L_law_mixed, d_L_law_word, d_L_law_names, d_L_law_same, d_L_law_is_word, d_L_law_whole, d_L_law_four, d_L_law_is_spot, d_L_law_reach, d_L_law_groups, d_L_law_all_cells, d_L_law_sizes, d_L_law_sides, d_L_law_grown, d_L_law_edge, d_L_law_map, d_L_law_made, d_L_law_named, d_L_law_cells_of, d_L_law_possible, d_L_law_row_fault, d_L_law_plat_fault, d_L_law_hangs, d_L_law_part_of, d_L_law_named_anew, d_L_law_fresh, d_L_law_divided_so]
def fn2 : List He.DefD := [d_law]
def fn : List He.DefD := fn0 ++ (fn1 ++ (fn2))
def fa0 : List He.Fa := [.glo "is_whole", .glo "is_number", .glo "is_name", .glo "is_cell", .glo "beside", .glo "check_cells", .glo "group_of", .glo "groups", .glo "hangs_together", .glo "pieces", .glo "side_count", .glo "is_list", .glo "check_rows", .glo "parcels_of", .glo "is_edge", .glo "check_road", .glo "check_part", .glo "borders_of", .glo "_law_bag", .glo "_law_draw", .glo "_law_pick", .glo "_law_mixed", .glo "_law_word", .glo "_law_names", .glo "_law_same", .glo "_law_is_word", .glo "_law_whole", .glo "_law_four", .glo "_law_is_spot", .glo "_law_reach"]
def fa1 : List He.Fa := [.glo "_law_groups", .glo "_law_all_cells", .glo "_law_sizes", .glo "_law_sides", .glo "_law_grown", .glo "_law_edge", .glo "_law_map", .glo "_law_made", .glo "_law_named", .glo "_law_cells_of", .glo "_law_possible", .glo "_law_row_fault", .glo "_law_plat_fault", .glo "_law_hangs", .glo "_law_part_of", .glo "_law_named_anew", .glo "_law_fresh", .glo "_law_divided_so", .glo "law", .glo "Plat", .free "isinstance", .free "len", .free "all", .free "sorted", .free "list", .free "enumerate", .free "sum", .free "int", .free "abs", .free "zip"]
def fa2 : List He.Fa := [.free "dict", .free "set", .free "range", .free "tuple", .free "bool", .free "str", .int "MOST_LETTERS" 6, .int "LAST" 11, .int "MOST_SIZE" 12, .int "MOST_PARCELS" 12, .str "LETTERS" "abcdefghijklmnopqrstuvwxyz", .cls "Plat", .mkr "Plat", .noat "Plat" "own_rows", .noat "Plat" "own_cells", .noat "Plat" "height", .noat "Plat" "width", .noat "Plat" "own_road", .noat "Plat" "own_borders", .noat "Plat" "own_rims", .meth "Plat" "rows", .meth "Plat" "road", .meth "Plat" "names", .meth "Plat" "area", .meth "Plat" "outline", .meth "Plat" "border", .meth "Plat" "divided", .meth "Plat" "united", .meth "Plat" "need_parcel", .meth "Plat" "__eq__"]
def fa3 : List He.Fa := [.meth "Plat" "__len__"]
def fa : List He.Fa := fa0 ++ (fa1 ++ (fa2 ++ (fa3)))
def loose0 : List Str := ["_wall", "RollError", "Missing", "InvalidName", "InvalidCell", "InvalidRow", "DuplicateName", "TooMany", "Apart", "NotBeside", "UnknownParcel", "LETTERS", "MOST_LETTERS", "is_whole", "is_number", "is_name", "LAST", "is_cell", "beside", "around", "check_cells", "group_of", "groups", "hangs_together", "pieces", "side_count", "MOST_SIZE", "MOST_PARCELS", "is_list", "check_rows"]
def loose1 : List Str := ["parcels_of", "is_edge", "check_road", "check_part", "borders_of", "Plat", "_law_bag", "_law_draw", "_law_pick", "_law_mixed", "_law_word", "_law_names", "_law_same", "_law_is_word", "_law_whole", "_law_four", "_law_is_spot", "_law_reach", "_law_groups", "_law_all_cells", "_law_sizes", "_law_sides", "_law_grown", "_law_edge", "_law_map", "_law_made", "_law_named", "_law_cells_of", "_law_possible", "_law_row_fault"]
def loose2 : List Str := ["_law_plat_fault", "_law_hangs", "_law_part_of", "_law_named_anew", "_law_fresh", "_law_divided_so"]
def loose : List Str := loose0 ++ (loose1 ++ (loose2))
/-- what more is asked of the class -/
def ex (K : PySem.W.Frag) : Bool := He.eqO (PySem.W.findIn K (.ref (He.ga K "Plat")) "__class__") (some (some (.builtin "object.__class__"))) && (He.eqO (PySem.W.specialIn K (.builtin "object.__class__") "__get__") (some (some (.builtin "getset_descriptor.__get__"))) &&
  (decide (PySem.W.takesIn K (.builtin "object.__class__") = some true) && (decide (PySem.W.mroIn K (He.ga K "Plat") (.type "object") = some true) && (decide (PySem.W.kitOne K (.ref (He.ga K "Plat")) (.ref (He.ga K "Plat")) = some true) &&
  He.eqO (PySem.W.findIn K (.ref (He.ga K "Plat")) "__ne__") (some (some (.builtin "object.__ne__")))))))
structure Sy (K : PySem.W.Frag) : Prop where
  d : He.SaysD fa fn K
  e : ex K = true
theorem Sy.fact {K : PySem.W.Frag} (c : Sy K) (i : Nat) {f : He.Fa} (h : fa[i]? = some f := by rfl) : f.ok K = true := c.d.fact i h
theorem Sy.def_ {K : PySem.W.Frag} (c : Sy K) (i : Nat) {d : He.DefD} (h : fn[i]? = some d := by rfl) : ∃ fd, FunD K d.name d.qual d.params d.body d.scope (d.dvs K) (d.kws K) (He.fAd K d.at_) fd := c.d.def_ i h
theorem Sy.ex {K : PySem.W.Frag} (c : Sy K) : PySem.W.findIn K (.ref (He.ga K "Plat")) "__class__" = some (some (.builtin "object.__class__")) ∧ PySem.W.specialIn K (.builtin "object.__class__") "__get__" = some (some (.builtin "getset_descriptor.__get__")) ∧
    PySem.W.takesIn K (.builtin "object.__class__") = some true ∧ PySem.W.mroIn K (He.ga K "Plat") (.type "object") = some true ∧ PySem.W.kitOne K (.ref (He.ga K "Plat")) (.ref (He.ga K "Plat")) = some true ∧
    PySem.W.findIn K (.ref (He.ga K "Plat")) "__ne__" = some (some (.builtin "object.__ne__")) := by
  obtain ⟨c1, h⟩ := He.ba c.e
  obtain ⟨c2, h⟩ := He.ba h
  obtain ⟨c3, h⟩ := He.ba h
  obtain ⟨c4, h⟩ := He.ba h
  obtain ⟨c5, c6⟩ := He.ba h
  exact ⟨He.eqO_ok c1, He.eqO_ok c2, of_decide_eq_true c3, of_decide_eq_true c4, of_decide_eq_true c5, He.eqO_ok c6⟩
abbrev R : PySem.W.OpenRow := PySem.W.OpenLaw.row PySem.Challenge.rw_deedranks_k09_whole_plats_divided_and_un
abbrev AlX : Type := He.AlD × Bool
def obsX (g : Addr → Option Obj) : AlX := (He.obsDG 5 fa fn g, ex (He.frG g (He.asD g 5)))
def hk : PySem.W.Hook where
  α := AlX
  obs := fun s => obsX s.heap.get?
  val := fun _ => (He.valD fn, true)
  says := fun _ h => ∃ K : PySem.W.Frag, K.In h ∧ Sy K
  of := fun _ _ e => ⟨_, He.frG_in, congrArg (fun z : AlX => z.1) e, congrArg (fun z : AlX => z.2) e⟩
  keeps := fun _ _ _ ⟨K, hK, c⟩ k => ⟨K, PySem.W.Frag.In.keeps hK k, c⟩
def ob (s : PySem.W.SharedT) : AlX := obsX (HandSHeadRun.getT s)
theorem ob_eq (s : PySem.W.SharedT) : ob s = hk.obs s.abs := by
  have e : HandSHeadRun.getT s = s.abs.heap.get? := funext (HandSHeadRun.getT_eq s)
  unfold ob
  rw [e]
  rfl
theorem run (w : World) : HandSHeadRun.RunEq R (PySem.W.view R.prog [71]) hk ob 6000 loose w := by
  intro os
  kernel_rfl
end K9H
end
section
set_option Elab.async false
set_option linter.all false
set_option maxRecDepth 100000
/-! cells, neighbours, what hangs together -/
namespace K9M
open PySem
abbrev Cell := Int × Int
abbrev abc : List Nat := ("abcdefghijklmnopqrstuvwxyz" : Str).cps.toList
def okC (c : Cell) : Bool := (decide (0 ≤ c.1) && decide (c.1 ≤ 11)) && (decide (0 ≤ c.2) && decide (c.2 ≤ 11))
def four (c : Cell) : List Cell := [(c.1 - 1, c.2), (c.1, c.2 - 1), (c.1, c.2 + 1), (c.1 + 1, c.2)]
def bes (c : Cell) : List Cell := (four c).filter okC
/-- as the law writes it -/
def inG (h w : Int) (c : Cell) : Bool := (decide (0 ≤ c.1) && decide (c.1 < h)) && (decide (0 ≤ c.2) && decide (c.2 < w))
def fourD : List Cell := [(-1, 0), (0, -1), (0, 1), (1, 0)]
def near (c : Cell) : List Cell := fourD.map fun d => (c.1 + d.1, c.2 + d.2)
def sides (h w : Int) (c : Cell) : List Cell := (near c).filter (inG h w)
def edgeB (h w : Int) (c : Cell) : Bool := decide (c.1 ∈ [0, h - 1]) || decide (c.2 ∈ [0, w - 1])
def isEdge (h w : Int) (c : Cell) : Bool := okC c && (decide (c.1 < h) && decide (c.2 < w)) && edgeB h w c
def rowC (w : Nat) (r : Nat) : List Cell := (List.range w).map fun (c : Nat) => ((r : Int), (c : Int))
def allC (h w : Nat) : List Cell := ((List.range h).map (rowC w)).flatten
def IsWord (z : Str) : Prop := 1 ≤ z.length ∧ z.length ≤ 6 ∧ ∀ c ∈ z.cps.toList, c ∈ abc
def wordB (z : Str) : Bool := (decide ((1 : Int) ≤ (z.length : Nat)) && decide (((z.length : Nat) : Int) ≤ 6)) && (z.cps.toList.map fun c => decide (c ∈ abc)).all id
inductive Reach (A : Cell → Prop) (s : Cell) : Cell → Prop
  | refl : A s → Reach A s s
  | step {t u : Cell} : Reach A s t → u ∈ four t → A u → Reach A s u
def Conn (A : Cell → Prop) : Prop := ∀ s t, A s → A t → Reach A s t
abbrev Rows := List (List Str)
/-- the name at a cell -/
def at? (rows : Rows) (c : Cell) : Option Str := (rows[c.1.toNat]?).bind fun r => r[c.2.toNat]?
def atR (rows : Rows) (c : Cell) : Str := (at? rows c).getD ⟨#[]⟩
def wid (rows : Rows) : Nat := (rows.headD []).length
structure Shape (rows : Rows) : Prop where
  h1 : 1 ≤ rows.length
  h12 : rows.length ≤ 12
  w1 : 1 ≤ wid rows
  w12 : wid rows ≤ 12
  rect : ∀ r ∈ rows, r.length = wid rows
def cellsOf (rows : Rows) (n : Str) : List Cell := (allC rows.length (wid rows)).filter fun c => decide (atR rows c = n)
def anew (rows : Rows) (cs : List Cell) (n : Str) : Rows := (List.range rows.length).map fun (i : Nat) => (List.range (wid rows)).map fun (j : Nat) => if ((i : Int), (j : Int)) ∈ cs then n else atR rows ((i : Int), (j : Int))
def sideCount (cs : List Cell) : Int := (cs.map fun c => (4 : Int) - (((bes c).filter fun p => decide (p ∈ cs)).length : Nat)).sum
theorem nd_len {α : Type} : ∀ {xs ys : List α}, xs.Nodup → (∀ x ∈ xs, x ∈ ys) → xs.length ≤ ys.length
  | [], _, _, _ => Nat.zero_le _
  | x :: xs, ys, nd, h => by
    obtain ⟨a, b, rfl⟩ := List.append_of_mem (h x List.mem_cons_self)
    obtain ⟨n1, n2⟩ := List.nodup_cons.mp nd
    have ih := nd_len (xs := xs) (ys := a ++ b) n2 fun y hy => by
      have hm := h y (List.mem_cons_of_mem _ hy)
      rcases List.mem_append.mp hm with q | q
      · exact List.mem_append_left _ q
      · rcases List.mem_cons.mp q with e | q
        · exact absurd (e ▸ hy) n1
        · exact List.mem_append_right _ q
    rw [List.length_append] at ih
    rw [List.length_append, List.length_cons, List.length_cons]
    omega
/-! group_of: a search in depth -/
structure Dfs (ks : List Cell) (s : Cell) (seen left : List Cell) : Prop where
  nd : seen.Nodup
  sub : ∀ x ∈ seen, x ∈ ks
  st : s ∈ seen
  lsub : ∀ x ∈ left, x ∈ seen
  cl : ∀ x ∈ seen, x ∉ left → ∀ u ∈ four x, u ∈ ks → u ∈ seen
/-- while the neighbours of c are looked at -/
structure DfsC (ks : List Cell) (s c : Cell) (i : Nat) (seen left : List Cell) : Prop where
  nd : seen.Nodup
  sub : ∀ x ∈ seen, x ∈ ks
  st : s ∈ seen
  lsub : ∀ x ∈ left, x ∈ seen
  cl : ∀ x ∈ seen, x ∉ left → x ≠ c → ∀ u ∈ four x, u ∈ ks → u ∈ seen
  upto : ∀ u ∈ (bes c).take i, u ∈ ks → u ∈ seen
theorem Dfs.done {ks : List Cell} {s : Cell} {seen : List Cell} (h : Dfs ks s seen []) : ∀ t, Reach (· ∈ ks) s t → t ∈ seen := fun t r => by
  induction r with
  | refl _ => exact h.st
  | step _ hu ha ih => exact h.cl _ ih (fun q => nomatch q) _ hu ha
theorem Dfs.pop {ks : List Cell} {s c : Cell} {seen left : List Cell} (h : Dfs ks s seen (left ++ [c])) : DfsC ks s c 0 seen left :=
  ⟨h.nd, h.sub, h.st, fun x hx => h.lsub x (List.mem_append_left _ hx), fun x hx hn hc => h.cl x hx fun q => (List.mem_append.mp q).elim hn fun q => hc (List.mem_singleton.mp q), fun u hu => by simp at hu⟩
theorem DfsC.skip {ks : List Cell} {s c u : Cell} {i : Nat} {seen left : List Cell} (h : DfsC ks s c i seen left) (hu : (bes c)[i]? = some u) (q : u ∈ ks → u ∈ seen) : DfsC ks s c (i + 1) seen left :=
  ⟨h.nd, h.sub, h.st, h.lsub, h.cl, fun v hv hk => by
    rw [List.take_add_one, hu] at hv
    rcases List.mem_append.mp hv with hv | hv
    · exact h.upto v hv hk
    · have e : v = u := by simpa using hv
      subst e
      exact q hk⟩
theorem DfsC.add {ks : List Cell} {s c u : Cell} {i : Nat} {seen left : List Cell} (h : DfsC ks s c i seen left) (hu : (bes c)[i]? = some u) (hk : u ∈ ks) (hn : u ∉ seen) : DfsC ks s c (i + 1) (seen ++ [u]) (left ++ [u]) := by
  refine ⟨?_, ?_, List.mem_append_left _ h.st, ?_, ?_, ?_⟩
  · rw [List.nodup_append]
    refine ⟨h.nd, List.nodup_cons.mpr ⟨fun q => (nomatch q), List.nodup_nil⟩, fun a ha b hb => ?_⟩
    rw [List.mem_singleton] at hb
    subst hb
    exact fun e => hn (e ▸ ha)
  · intro x hx
    rcases List.mem_append.mp hx with hx | hx
    · exact h.sub x hx
    · rw [List.mem_singleton.mp hx]
      exact hk
  · intro x hx
    rcases List.mem_append.mp hx with hx | hx
    · exact List.mem_append_left _ (h.lsub x hx)
    · exact List.mem_append_right _ hx
  · intro x hx hl hc v hv hvk
    rcases List.mem_append.mp hx with hx | hx
    · exact List.mem_append_left _ (h.cl x hx (fun q => hl (List.mem_append_left _ q)) hc v hv hvk)
    · exact absurd (List.mem_append_right _ hx) hl
  · intro v hv hvk
    rw [List.take_add_one, hu] at hv
    rcases List.mem_append.mp hv with hv | hv
    · exact List.mem_append_left _ (h.upto v hv hvk)
    · have e : v = u := by simpa using hv
      subst e
      exact List.mem_append_right _ (List.mem_singleton.mpr rfl)
theorem DfsC.end_ {ks : List Cell} {s c : Cell} {seen left : List Cell} (h : DfsC ks s c (bes c).length seen left) (ok : ∀ x ∈ ks, okC x = true) : Dfs ks s seen left := by
  refine ⟨h.nd, h.sub, h.st, h.lsub, fun x hx hn u hu hk => ?_⟩
  by_cases e : x = c
  · subst e
    refine h.upto u ?_ hk
    rw [List.take_length]
    exact List.mem_filter.mpr ⟨hu, ok u hk⟩
  · exact h.cl x hx hn e u hu hk
theorem four_iff {t u : Cell} : u ∈ four t ↔ u = (t.1 - 1, t.2) ∨ u = (t.1, t.2 - 1) ∨ u = (t.1, t.2 + 1) ∨ u = (t.1 + 1, t.2) := by
  simp [four]
theorem four_symm {t u : Cell} (h : u ∈ four t) : t ∈ four u := by
  rw [four_iff] at h ⊢
  obtain ⟨a, b⟩ := t
  obtain ⟨c, d⟩ := u
  simp only [Prod.mk.injEq] at h ⊢
  omega
theorem near_iff {t u : Cell} : u ∈ near t ↔ u ∈ four t := by
  rw [four_iff]
  obtain ⟨a, b⟩ := t
  obtain ⟨c, d⟩ := u
  simp only [near, fourD, List.map_cons, List.map_nil, List.mem_cons, List.not_mem_nil, or_false, Prod.mk.injEq]
  omega
theorem Reach.src {A : Cell → Prop} {s t : Cell} (r : Reach A s t) : A s := by
  induction r with
  | refl h => exact h
  | step _ _ _ ih => exact ih
theorem Reach.tgt {A : Cell → Prop} {s t : Cell} (r : Reach A s t) : A t := by
  cases r with
  | refl h => exact h
  | step _ _ h => exact h
theorem Reach.trans {A : Cell → Prop} {s t u : Cell} (r : Reach A s t) (q : Reach A t u) : Reach A s u := by
  induction q with
  | refl _ => exact r
  | step _ h a ih => exact .step ih h a
theorem Reach.symm {A : Cell → Prop} {s t : Cell} (r : Reach A s t) : Reach A t s := by
  induction r with
  | refl h => exact .refl h
  | step q h a ih => exact (Reach.step (.refl a) (four_symm h) q.tgt).trans ih
theorem Reach.mono {A B : Cell → Prop} (h : ∀ c, A c → B c) {s t : Cell} (r : Reach A s t) : Reach B s t := by
  induction r with
  | refl a => exact .refl (h _ a)
  | step _ q a ih => exact .step ih q (h _ a)
theorem mem_allC {h w : Nat} {c : Cell} : c ∈ allC h w ↔ ∃ i j : Nat, c = ((i : Int), (j : Int)) ∧ i < h ∧ j < w := by
  unfold allC
  rw [List.mem_flatten]
  constructor
  · rintro ⟨l, hl, hc⟩
    obtain ⟨i, hi, rfl⟩ := List.mem_map.mp hl
    obtain ⟨j, hj, rfl⟩ := List.mem_map.mp hc
    exact ⟨i, j, rfl, List.mem_range.mp hi, List.mem_range.mp hj⟩
  · rintro ⟨i, j, rfl, hi, hj⟩
    exact ⟨_, List.mem_map.mpr ⟨i, List.mem_range.mpr hi, rfl⟩, List.mem_map.mpr ⟨j, List.mem_range.mpr hj, rfl⟩⟩
theorem mem_allC' {h w : Nat} {c : Cell} : c ∈ allC h w ↔ inG h w c = true := by
  rw [mem_allC]
  unfold inG
  rw [Bool.and_eq_true, Bool.and_eq_true, Bool.and_eq_true, decide_eq_true_eq, decide_eq_true_eq, decide_eq_true_eq, decide_eq_true_eq]
  constructor
  · rintro ⟨i, j, rfl, hi, hj⟩
    simp only
    omega
  · rintro ⟨⟨h1, h2⟩, h3, h4⟩
    refine ⟨c.1.toNat, c.2.toNat, Prod.ext ?_ ?_, ?_, ?_⟩ <;> (try simp only) <;> omega
theorem nd_allC : ∀ h w : Nat, (allC h w).Nodup
  | 0, w => by simp [allC]
  | h + 1, w => by
    have e : allC (h + 1) w = allC h w ++ rowC w h := by
      unfold allC
      rw [List.range_succ, List.map_append, List.flatten_append]
      simp
    rw [e, List.nodup_append]
    refine ⟨nd_allC h w, ?_, fun a ha b hb => ?_⟩
    · unfold rowC
      exact List.Pairwise.map _ (fun a b hab e => hab (by injection e with e1 e2; omega)) List.nodup_range
    · obtain ⟨i, j, rfl, hi, hj⟩ := mem_allC.mp ha
      unfold rowC at hb
      obtain ⟨k, hk, rfl⟩ := List.mem_map.mp hb
      intro e
      injection e with e1 e2
      omega
theorem okC_allC {h w : Nat} (h1 : h ≤ 12) (h2 : w ≤ 12) {c : Cell} (hc : c ∈ allC h w) : okC c = true := by
  obtain ⟨i, j, rfl, hi, hj⟩ := mem_allC.mp hc
  unfold okC
  rw [Bool.and_eq_true, Bool.and_eq_true, Bool.and_eq_true, decide_eq_true_eq, decide_eq_true_eq, decide_eq_true_eq, decide_eq_true_eq]
  simp only
  omega
theorem Shape.at_ {rows : Rows} (s : Shape rows) {i j : Nat} (hi : i < rows.length) (hj : j < wid rows) : ∃ r, rows[i]? = some r ∧ r ∈ rows ∧ r[j]? = some (atR rows ((i : Int), (j : Int))) := by
  have h1 : rows[i]? = some rows[i] := List.getElem?_eq_getElem hi
  have hm : rows[i] ∈ rows := List.getElem_mem hi
  have hr := s.rect _ hm
  generalize rows[i] = r at h1 hm hr
  refine ⟨r, h1, hm, ?_⟩
  have h2 : r[j]? = some (r[j]'(by omega)) := List.getElem?_eq_getElem (by omega)
  unfold atR at?
  simp only [Int.toNat_natCast, h1, Option.bind_some, h2, Option.getD_some]
theorem Shape.hd {rows : Rows} (s : Shape rows) : ∃ r, rows[0]? = some r ∧ r.length = wid rows := by
  cases rows with
  | nil => exact absurd s.h1 (by simp)
  | cons r rs => exact ⟨r, rfl, rfl⟩
theorem mem_cellsOf {rows : Rows} {n : Str} {c : Cell} : c ∈ cellsOf rows n ↔ c ∈ allC rows.length (wid rows) ∧ atR rows c = n := by
  unfold cellsOf
  rw [List.mem_filter, decide_eq_true_eq]
theorem nd_cellsOf (rows : Rows) (n : Str) : (cellsOf rows n).Nodup := (nd_allC _ _).filter _
/-- words by their signs -/
def IsW (l : List Nat) : Prop := 1 ≤ l.length ∧ l.length ≤ 6 ∧ ∀ c ∈ l, c ∈ abc
theorem word_tl {z : Str} : IsWord z ↔ IsW z.cps.toList := by
  unfold IsWord IsW
  have e : z.cps.toList.length = z.length := Array.length_toList
  rw [e]
theorem conn_congr {A B : Cell → Prop} (h : ∀ c, A c ↔ B c) (k : Conn A) : Conn B := fun s t hs ht => (k s t ((h s).mpr hs) ((h t).mpr ht)).mono fun c => (h c).mp
theorem conn_none {B : Cell → Prop} (h : ∀ c, ¬ B c) : Conn B := fun s _ hs _ => absurd hs (h s)
theorem conn_one {B : Cell → Prop} {c0 : Cell} (h : ∀ c, B c ↔ c = c0) : Conn B := fun s t hs ht => by
  have e1 := (h s).mp hs
  have e2 := (h t).mp ht
  subst e1 e2
  exact .refl hs
theorem conn_insert {A B : Cell → Prop} {c0 d : Cell} (k : Conn A) (hd : A d) (hc : c0 ∈ four d) (h : ∀ c, B c ↔ A c ∨ c = c0) : Conn B := by
  have up : ∀ {s t}, Reach A s t → Reach B s t := fun r => r.mono fun c hc => (h c).mpr (.inl hc)
  have B0 : B c0 := (h c0).mpr (.inr rfl)
  have toC : ∀ s, B s → Reach B s c0 := fun s hs => by
    rcases (h s).mp hs with ha | e
    · exact .step (up (k s d ha hd)) hc B0
    · rw [e]; exact .refl B0
  exact fun s t hs ht => (toC s hs).trans (toC t ht).symm
/-- a map that is being grown -/
structure Grow (G : List Cell) (ks : List Cell) (f : Cell → Str) : Prop where
  nd : ks.Nodup
  sub : ∀ c ∈ ks, c ∈ G
  conn : ∀ n, Conn fun c => c ∈ ks ∧ f c = n
def put (f : Cell → Str) (c0 : Cell) (n : Str) : Cell → Str := fun c => if c = c0 then n else f c
theorem put_same {f : Cell → Str} {c0 : Cell} {n : Str} : put f c0 n c0 = n := if_pos rfl
theorem put_ne {f : Cell → Str} {c c0 : Cell} {n : Str} (h : c ≠ c0) : put f c0 n c = f c := if_neg h
theorem Grow.seed {G ks : List Cell} {f : Cell → Str} {c0 : Cell} {n : Str} (g : Grow G ks f) (hG : c0 ∈ G) (hn : c0 ∉ ks) (hf : ∀ c ∈ ks, f c ≠ n) : Grow G (ks ++ [c0]) (put f c0 n) := by
  refine ⟨?_, fun c hc => ?_, fun m => ?_⟩
  · rw [List.nodup_append]
    exact ⟨g.nd, List.nodup_cons.mpr ⟨fun q => (nomatch q), List.nodup_nil⟩, fun a ha b hb e => hn (by rw [← List.mem_singleton.mp hb, ← e]; exact ha)⟩
  · rcases List.mem_append.mp hc with h | h
    · exact g.sub c h
    · rw [List.mem_singleton.mp h]; exact hG
  · by_cases e : m = n
    · subst e
      refine conn_one (c0 := c0) fun c => ⟨fun h => ?_, fun h => ?_⟩
      · rcases List.mem_append.mp h.1 with h1 | h1
        · have hne : c ≠ c0 := fun e => hn (e ▸ h1)
          rw [put_ne hne] at h
          exact absurd h.2 (hf c h1)
        · exact List.mem_singleton.mp h1
      · subst h
        exact ⟨List.mem_append_right _ (List.mem_singleton.mpr rfl), put_same⟩
    · refine conn_congr (fun c => ?_) (g.conn m)
      constructor
      · rintro ⟨h1, h2⟩
        have hne : c ≠ c0 := fun e => hn (e ▸ h1)
        exact ⟨List.mem_append_left _ h1, by rw [put_ne hne]; exact h2⟩
      · rintro ⟨h1, h2⟩
        by_cases hc : c = c0
        · subst hc
          rw [put_same] at h2
          exact absurd h2.symm e
        · rw [put_ne hc] at h2
          rcases List.mem_append.mp h1 with h3 | h3
          · exact ⟨h3, h2⟩
          · exact absurd (List.mem_singleton.mp h3) hc
theorem Grow.add {G ks : List Cell} {f : Cell → Str} {c0 d : Cell} (g : Grow G ks f) (hG : c0 ∈ G) (hn : c0 ∉ ks) (hd : d ∈ ks) (hc : c0 ∈ four d) : Grow G (ks ++ [c0]) (put f c0 (f d)) := by
  refine ⟨?_, fun c hc => ?_, fun m => ?_⟩
  · rw [List.nodup_append]
    exact ⟨g.nd, List.nodup_cons.mpr ⟨fun q => (nomatch q), List.nodup_nil⟩, fun a ha b hb e => hn (by rw [← List.mem_singleton.mp hb, ← e]; exact ha)⟩
  · rcases List.mem_append.mp hc with h | h
    · exact g.sub c h
    · rw [List.mem_singleton.mp h]; exact hG
  · have key : ∀ c, (c ∈ ks ++ [c0] ∧ put f c0 (f d) c = m) ↔ (c ∈ ks ∧ f c = m) ∨ (c = c0 ∧ f d = m) := fun c => by
      constructor
      · rintro ⟨h1, h2⟩
        by_cases hcc : c = c0
        · subst hcc
          rw [put_same] at h2
          exact .inr ⟨rfl, h2⟩
        · rw [put_ne hcc] at h2
          rcases List.mem_append.mp h1 with h3 | h3
          · exact .inl ⟨h3, h2⟩
          · exact absurd (List.mem_singleton.mp h3) hcc
      · rintro (⟨h1, h2⟩ | ⟨rfl, h2⟩)
        · have hne : c ≠ c0 := fun e => hn (e ▸ h1)
          exact ⟨List.mem_append_left _ h1, by rw [put_ne hne]; exact h2⟩
        · exact ⟨List.mem_append_right _ (List.mem_singleton.mpr rfl), by rw [put_same]; exact h2⟩
    by_cases e : f d = m
    · exact conn_insert (g.conn m) ⟨hd, e⟩ hc fun c => (key c).trans ⟨fun h => h.elim .inl fun h => .inr h.1, fun h => h.elim .inl fun h => .inr ⟨h, e⟩⟩
    · exact conn_congr (fun c => ((key c).trans ⟨fun h => h.elim id fun h => absurd h.2 e, .inl⟩).symm) (g.conn m)
/-- a set closed under neighbours within the grid is the grid -/
theorem grid_closed {h w : Nat} {A : Cell → Prop} {c0 : Cell} (h0 : c0 ∈ allC h w) (a0 : A c0) (cl : ∀ c d, c ∈ allC h w → A c → d ∈ allC h w → d ∈ four c → A d) : ∀ c ∈ allC h w, A c := by
  obtain ⟨i0, j0, rfl, hi0, hj0⟩ := mem_allC.mp h0
  have mem : ∀ i j : Nat, i < h → j < w → ((i : Int), (j : Int)) ∈ allC h w := fun i j hi hj => mem_allC.mpr ⟨i, j, rfl, hi, hj⟩
  have step : ∀ i j i' j' : Nat, i < h → j < w → i' < h → j' < w → A ((i : Int), (j : Int)) → ((i' : Int), (j' : Int)) ∈ four ((i : Int), (j : Int)) → A ((i' : Int), (j' : Int)) := fun i j i' j' hi hj hi' hj' ha hf => cl _ _ (mem i j hi hj) ha (mem i' j' hi' hj') hf
  -- down to row 0
  have down : ∀ i j : Nat, i < h → j < w → A ((i : Int), (j : Int)) → A ((0 : Int), (j : Int)) := by
    intro i
    induction i with
    | zero => exact fun j _ _ ha => ha
    | succ i ih =>
      intro j hi hj ha
      refine ih j (by omega) hj (step (i + 1) j i j hi hj (by omega) hj ha ?_)
      rw [four_iff]
      exact .inl (Prod.ext (by show (i : Int) = ((i + 1 : Nat) : Int) - 1; omega) rfl)
  have left : ∀ j : Nat, 0 < h → j < w → A ((0 : Int), (j : Int)) → A ((0 : Int), (0 : Int)) := by
    intro j
    induction j with
    | zero => exact fun _ _ ha => ha
    | succ j ih =>
      intro hh hj ha
      refine ih hh (by omega) (step 0 (j + 1) 0 j hh hj hh (by omega) ha ?_)
      rw [four_iff]
      exact .inr (.inl (Prod.ext rfl (by show (j : Int) = ((j + 1 : Nat) : Int) - 1; omega)))
  have a00 : A ((0 : Int), (0 : Int)) := left j0 (by omega) hj0 (down i0 j0 hi0 hj0 a0)
  have right : ∀ j : Nat, 0 < h → j < w → A ((0 : Int), (j : Int)) := by
    intro j
    induction j with
    | zero => exact fun _ _ => a00
    | succ j ih =>
      intro hh hj
      refine step 0 j 0 (j + 1) hh (by omega) hh hj (ih hh (by omega)) ?_
      rw [four_iff]
      exact .inr (.inr (.inl (Prod.ext rfl (by show ((j + 1 : Nat) : Int) = (j : Int) + 1; omega))))
  have up : ∀ i j : Nat, i < h → j < w → A ((i : Int), (j : Int)) := by
    intro i
    induction i with
    | zero => exact fun j hh hj => right j hh hj
    | succ i ih =>
      intro j hi hj
      refine step i j (i + 1) j (by omega) hj hi hj (ih j (by omega) hj) ?_
      rw [four_iff]
      exact .inr (.inr (.inr (Prod.ext (by show ((i + 1 : Nat) : Int) = (i : Int) + 1; omega) rfl)))
  intro c hc
  obtain ⟨i, j, rfl, hi, hj⟩ := mem_allC.mp hc
  exact up i j hi hj
end K9M
end
section
set_option Elab.async false
set_option linter.all false
set_option maxRecDepth 100000
set_option maxHeartbeats 2000000
/-! what a reading comes to, told by what the values stand for (Rep), over a heap that is parted into the data and a few places that change -/
namespace L2.K9A
open PySem PySem.Spec PyProof.Rows L2
/-! ### what a value stands for -/
structure Rep where
  P : V → Hp → Prop
  up : ∀ {v : V} {H H' : Hp}, Same H H' → P v H → P v H'
/-- no tuple -/
def nt : HO → Bool
  | .tup _ => false
  | _ => true
structure HRep where
  P : HO → Hp → Prop
  up : ∀ {o : HO} {H H' : Hp}, Same H H' → P o H → P o H'
  no : ∀ {o : HO} {H : Hp}, P o H → nt o = true
def rAny : Rep := ⟨fun _ _ => True, fun _ h => h⟩
def rC (x : V) : Rep := ⟨fun v _ => v = x, fun _ h => h⟩
abbrev rInt (i : Int) : Rep := rC (.int i)
abbrev rBl (b : Bool) : Rep := rC (.bl b)
abbrev rStr (z : Str) : Rep := rC (.str z)
abbrev rNon : Rep := rC .non
abbrev rAt (p : Addr) : Rep := rC (.ref p)
def rEx {α : Type} (P : α → Prop) (f : α → Rep) : Rep := ⟨fun v H => ∃ x, P x ∧ (f x).P v H, fun s h => by
  obtain ⟨x, p, q⟩ := h
  exact ⟨x, p, (f x).up s q⟩⟩
abbrev rZ (P : Int → Prop) : Rep := rEx P rInt
abbrev rB : Rep := rEx (fun _ => True) rBl
def All2 : List Rep → List V → Hp → Prop
  | [], [], _ => True
  | r :: rs, v :: vs, H => r.P v H ∧ All2 rs vs H
  | _, _, _ => False
theorem All2.up {H H' : Hp} (s : Same H H') : ∀ {rs : List Rep} {vs : List V}, All2 rs vs H → All2 rs vs H'
  | [], [], _ => True.intro
  | r :: rs, v :: vs, h => ⟨r.up s h.1, All2.up s h.2⟩
  | [], _ :: _, h => h
  | _ :: _, [], h => h
theorem All2.len {H : Hp} : ∀ {rs : List Rep} {vs : List V}, All2 rs vs H → vs.length = rs.length
  | [], [], _ => rfl
  | r :: rs, v :: vs, h => congrArg (· + 1) (All2.len h.2)
  | [], _ :: _, h => h.elim
  | _ :: _, [], h => h.elim
theorem All2.get {H : Hp} : ∀ {rs : List Rep} {vs : List V} (i : Nat) {r : Rep}, All2 rs vs H → rs[i]? = some r → ∃ v, vs[i]? = some v ∧ r.P v H
  | [], _, i, r, _, e => by simp at e
  | r :: rs, v :: vs, 0, q, h, e => by
    have e1 : r = q := Option.some.inj e
    exact ⟨v, rfl, e1 ▸ h.1⟩
  | r :: rs, v :: vs, i + 1, q, h, e => by
    obtain ⟨x, e1, e2⟩ := All2.get (rs := rs) (vs := vs) i (r := q) h.2 e
    exact ⟨x, e1, e2⟩
  | _ :: _, [], _, _, h, _ => h.elim
theorem All2.snoc {H : Hp} {r : Rep} {v : V} (hv : r.P v H) : ∀ {rs : List Rep} {vs : List V}, All2 rs vs H → All2 (rs ++ [r]) (vs ++ [v]) H
  | [], [], _ => ⟨hv, True.intro⟩
  | _ :: _, _ :: _, h => ⟨h.1, All2.snoc hv h.2⟩
  | [], _ :: _, h => h.elim
  | _ :: _, [], h => h.elim
theorem All2.app {H : Hp} {rs' : List Rep} {vs' : List V} (h' : All2 rs' vs' H) : ∀ {rs : List Rep} {vs : List V}, All2 rs vs H → All2 (rs ++ rs') (vs ++ vs') H
  | [], [], _ => h'
  | _ :: _, _ :: _, h => ⟨h.1, All2.app h' h.2⟩
  | [], _ :: _, h => h.elim
  | _ :: _, [], h => h.elim
theorem All2.take {H : Hp} : ∀ (n : Nat) {rs : List Rep} {vs : List V}, All2 rs vs H → All2 (rs.take n) (vs.take n) H
  | 0, _, _, _ => by simp [All2]
  | n + 1, [], [], _ => True.intro
  | n + 1, _ :: _, _ :: _, h => ⟨h.1, All2.take n h.2⟩
  | n + 1, [], _ :: _, h => h.elim
  | n + 1, _ :: _, [], h => h.elim
theorem All2.drop {H : Hp} : ∀ (n : Nat) {rs : List Rep} {vs : List V}, All2 rs vs H → All2 (rs.drop n) (vs.drop n) H
  | 0, _, _, h => h
  | n + 1, [], [], _ => True.intro
  | n + 1, _ :: _, _ :: _, h => All2.drop n h.2
  | n + 1, [], _ :: _, h => h.elim
  | n + 1, _ :: _, [], h => h.elim
theorem All2.mem {H : Hp} : ∀ {rs : List Rep} {vs : List V}, All2 rs vs H → ∀ v ∈ vs, ∃ r ∈ rs, r.P v H
  | [], [], _, v, hv => by cases hv
  | r :: rs, w :: vs, h, v, hv => by
    rcases List.mem_cons.mp hv with e | hv
    · exact ⟨r, List.mem_cons_self, e ▸ h.1⟩
    · obtain ⟨q, m, p⟩ := All2.mem h.2 v hv
      exact ⟨q, List.mem_cons_of_mem _ m, p⟩
  | [], _ :: _, h, _, _ => h.elim
  | _ :: _, [], h, _, _ => h.elim
/-- all alike -/
theorem All2.of_map {α : Type} {H : Hp} (f : α → Rep) (g : α → V) (h : ∀ x, (f x).P (g x) H) : ∀ xs : List α, All2 (xs.map f) (xs.map g) H
  | [] => True.intro
  | x :: xs => ⟨h x, All2.of_map f g h xs⟩
/-- constants are what they are -/
theorem All2.consts {H : Hp} {α : Type} (g : α → V) : ∀ {xs : List α} {vs : List V}, All2 (xs.map fun x => rC (g x)) vs H → vs = xs.map g
  | [], [], _ => rfl
  | x :: xs, v :: vs, h => by
    have e := All2.consts g h.2
    have e1 : v = g x := h.1
    rw [e, e1]
    rfl
  | [], _ :: _, h => h.elim
  | _ :: _, [], h => h.elim
/-- a place's contents -/
def hL (rs : List Rep) : HRep := ⟨fun o H => ∃ vs, o = .lst vs ∧ All2 rs vs H, fun s h => by
  obtain ⟨vs, e, q⟩ := h
  exact ⟨vs, e, q.up s⟩, fun h => by
  obtain ⟨vs, e, _⟩ := h
  rw [e]
  rfl⟩
/-- a dict with tuple keys: the keys in their order, what stands at each -/
def hDT (ks : List (List Key)) (f : List Key → Rep) : HRep := ⟨fun o H => ∃ kvs, o = .dT kvs ∧ kvs.map Prod.fst = ks ∧ ∀ k v, (k, v) ∈ kvs → (f k).P v H, fun s h => by
  obtain ⟨kvs, e, q, r⟩ := h
  exact ⟨kvs, e, q, fun k v m => (f k).up s (r k v m)⟩, fun h => by
  obtain ⟨_, e, _⟩ := h
  rw [e]
  rfl⟩
def hDK (ks : List Key) (f : Key → Rep) : HRep := ⟨fun o H => ∃ kvs, o = .dK kvs ∧ kvs.map Prod.fst = ks ∧ ∀ k v, (k, v) ∈ kvs → (f k).P v H, fun s h => by
  obtain ⟨kvs, e, q, r⟩ := h
  exact ⟨kvs, e, q, fun k v m => (f k).up s (r k v m)⟩, fun h => by
  obtain ⟨_, e, _⟩ := h
  rw [e]
  rfl⟩
def rOf (h : HRep) : Rep := ⟨fun v H => ∃ a o, v = .ref a ∧ H a = some o ∧ h.P o H, fun s q => by
  obtain ⟨a, o, e, ho, q⟩ := q
  exact ⟨a, o, e, s _ _ ho, h.up s q⟩⟩
abbrev rL (rs : List Rep) : Rep := rOf (hL rs)
def rT (rs : List Rep) : Rep := ⟨fun v H => ∃ a vs, v = .ref a ∧ H a = some (.tup vs) ∧ All2 rs vs H, fun s q => by
  obtain ⟨a, vs, e, ho, q⟩ := q
  exact ⟨a, vs, e, s _ _ ho, q.up s⟩⟩
abbrev rDT (ks : List (List Key)) (f : List Key → Rep) : Rep := rOf (hDT ks f)
abbrev rDK (ks : List Key) (f : Key → Rep) : Rep := rOf (hDK ks f)

/-! ### the heap's two parts -/
def msk (S : List Addr) (H : Hp) : Hp := fun p => if p ∈ S then none else H p
theorem msk_same {S : List Addr} {H : Hp} : Same (msk S H) H := fun p o h => by
  unfold msk at h
  split at h
  · cases h
  · exact h
theorem msk_sub {S T : List Addr} {H : Hp} (h : ∀ p, p ∈ T → p ∈ S) : Same (msk S H) (msk T H) := fun p o e => by
  unfold msk at e ⊢
  split at e
  · cases e
  · next hp => rw [if_neg fun q => hp (h p q)]; exact e
theorem msk_congr {S T : List Addr} {H : Hp} (h : ∀ p, p ∈ T ↔ p ∈ S) : msk S H = msk T H := by
  funext p
  unfold msk
  by_cases hp : p ∈ S
  · rw [if_pos hp, if_pos ((h p).mpr hp)]
  · rw [if_neg hp, if_neg fun q => hp ((h p).mp q)]
theorem msk_out {S : List Addr} {H : Hp} {p : Addr} (h : p ∉ S) : msk S H p = H p := if_neg h
/-- a place of S changes: the data are as they were -/
theorem msk_upd {S : List Addr} {H : Hp} {p : Addr} {o : HO} (h : p ∈ S) : msk S (upd H p o) = msk S H := by
  funext q
  unfold msk
  by_cases hq : q ∈ S
  · rw [if_pos hq, if_pos hq]
  · rw [if_neg hq, if_neg hq, upd_ne fun e => hq (by rw [e]; exact h)]
theorem msk_cons {S : List Addr} {H : Hp} {p : Addr} {o : HO} (h : H p = none) : msk (p :: S) (upd H p o) = msk S H := by
  funext q
  unfold msk
  by_cases e : q = p
  · subst e
    rw [if_pos List.mem_cons_self]
    split
    · rfl
    · exact h.symm
  · by_cases hq : q ∈ S
    · rw [if_pos (List.mem_cons_of_mem _ hq), if_pos hq]
    · rw [if_neg fun z => (List.mem_cons.mp z).elim e hq, if_neg hq, upd_ne e]
/-- the bag of the law's draws at a -/
def BagAt (a : Addr) (M H : Hp) : Prop := ∃ (c : Addr) (xs : List Int) (i r m n : Int), H a = some (.lst [.ref c, .int i, .int r, .int m, .int n]) ∧ M c = some (.lst (xs.map V.int)) ∧ xs.length ≤ 63 ∧ 0 ≤ i ∧ 0 ≤ r ∧ 0 ≤ m ∧ m < 2147483323 ∧ 0 ≤ n
structure HpOk (b : Option Addr) (S : List Addr) (H : Hp) : Prop where
  ob : ∀ p ∈ S, ∃ o, H p = some o ∧ nt o = true
  bag : ∀ a, b = some a → a ∈ S ∧ BagAt a (msk S H) H
theorem HpOk.al {b : Option Addr} {S : List Addr} {H : Hp} (k : HpOk b S H) (p : Addr) (hp : p ∈ S) : H p ≠ none := fun e => by
  obtain ⟨o, ho, _⟩ := k.ob p hp
  rw [e] at ho
  cases ho
structure Fr (b : Option Addr) (S : List Addr) (H H' : Hp) : Prop where
  ok : HpOk b S H'
  dat : Same (msk S H) (msk S H')
  hot : ∀ p ∈ S, b ≠ some p → H' p = H p
theorem Fr.refl {b : Option Addr} {S : List Addr} {H : Hp} (h : HpOk b S H) : Fr b S H H := ⟨h, Same.refl _, fun _ _ _ => rfl⟩
theorem Fr.trans {b : Option Addr} {S : List Addr} {H H1 H2 : Hp} (e : Fr b S H H1) (f : Fr b S H1 H2) : Fr b S H H2 := ⟨f.ok, e.dat.trans f.dat, fun p h n => (f.hot p h n).trans (e.hot p h n)⟩
theorem BagAt.up {a : Addr} {M M' H : Hp} (h : BagAt a M H) (s : Same M M') : BagAt a M' H := by
  obtain ⟨c, xs, i, r, m, n, h1, h2, h3⟩ := h
  exact ⟨c, xs, i, r, m, n, h1, s _ _ h2, h3⟩
theorem BagAt.to {a : Addr} {M H H' : Hp} (h : BagAt a M H) (e : H' a = H a) : BagAt a M H' := by
  obtain ⟨c, xs, i, r, m, n, h1, h2, h3⟩ := h
  exact ⟨c, xs, i, r, m, n, e.trans h1, h2, h3⟩
theorem msk_new {S : List Addr} {H : Hp} {p : Addr} {o : HO} (h : H p = none) : Same (msk S H) (msk S (upd H p o)) := fun q u e => by
  unfold msk at e ⊢
  split at e
  · cases e
  · next hq => rw [if_neg hq, upd_ne (ne_of_none e h)]; exact e
theorem HpOk.new {b : Option Addr} {S : List Addr} {H : Hp} {p : Addr} {o : HO} (k : HpOk b S H) (h : H p = none) : HpOk b S (upd H p o) := by
  refine ⟨fun q hq => ?_, fun a ha => ?_⟩
  · have n : q ≠ p := fun e => k.al q hq (e ▸ h)
    rw [upd_ne n]
    exact k.ob q hq
  · obtain ⟨h1, h2⟩ := k.bag a ha
    have n : a ≠ p := fun e => k.al a h1 (e ▸ h)
    exact ⟨h1, (h2.up (msk_new h)).to (upd_ne n)⟩
theorem Fr.new {b : Option Addr} {S : List Addr} {H : Hp} {p : Addr} {o : HO} (k : HpOk b S H) (h : H p = none) : Fr b S H (upd H p o) := by
  refine ⟨k.new h, msk_new h, fun q hq _ => upd_ne fun e => k.al q hq (e ▸ h)⟩
theorem Fr.same {b : Option Addr} {S : List Addr} {H H' : Hp} (e : Fr b S H H') : Same (msk S H) H' := e.dat.trans msk_same
/-- p is new: not of S, and what is data stays -/
theorem new_out {b : Option Addr} {S : List Addr} {H : Hp} {p : Addr} (k : HpOk b S H) (h : H p = none) : p ∉ S := fun q => k.al p q h
/-- one more place that changes -/
theorem HpOk.hot {b : Option Addr} {S : List Addr} {H : Hp} {p : Addr} {o : HO} (k : HpOk b S H) (h : H p = none) (no : nt o = true) : HpOk b (p :: S) (upd H p o) := by
  refine ⟨fun q hq => ?_, fun a ha => ?_⟩
  · rcases List.mem_cons.mp hq with e | hq
    · rw [e, upd_same]
      exact ⟨o, rfl, no⟩
    · exact (k.new (o := o) h).ob q hq
  · obtain ⟨h1, h2⟩ := k.bag a ha
    have n : a ≠ p := fun e => k.al a h1 (e ▸ h)
    rw [msk_cons h]
    exact ⟨List.mem_cons_of_mem _ h1, h2.to (upd_ne n)⟩
theorem HpOk.put {b : Option Addr} {S : List Addr} {H : Hp} {p : Addr} {o : HO} (k : HpOk b S H) (h : p ∈ S) (n : b ≠ some p) (no : nt o = true) : HpOk b S (upd H p o) := by
  refine ⟨fun q hq => ?_, fun a ha => ?_⟩
  · by_cases e : q = p
    · rw [e, upd_same]
      exact ⟨o, rfl, no⟩
    · rw [upd_ne e]
      exact k.ob q hq
  · obtain ⟨h1, h2⟩ := k.bag a ha
    rw [msk_upd h]
    exact ⟨h1, h2.to (upd_ne fun e => n (e ▸ ha))⟩

/-! ### the slots -/
abbrev Es := List (Option Rep)
abbrev Hs := List (Addr × HRep)
structure Slots (M : Hp) (σ : St) (es : Es) : Prop where
  len : σ.length = es.length
  at_ : ∀ (i : Nat) (R : Rep), es[i]? = some (some R) → ∃ v, σ[i]? = some (some v) ∧ R.P v M
theorem Slots.up {M M' : Hp} {σ : St} {es : Es} (h : Slots M σ es) (s : Same M M') : Slots M' σ es := ⟨h.len, fun i R e => by
  obtain ⟨v, e1, e2⟩ := h.at_ i R e
  exact ⟨v, e1, R.up s e2⟩⟩
theorem Slots.set {M : Hp} {σ : St} {es : Es} {v : V} {R : Rep} (h : Slots M σ es) (i : Nat) (hv : R.P v M) : Slots M (σ.set i (some v)) (es.set i (some R)) := by
  refine ⟨by rw [List.length_set, List.length_set, h.len], fun j Q e => ?_⟩
  by_cases hij : i = j
  · subst hij
    have hl : i < es.length := by
      have := (List.getElem?_eq_some_iff.mp e).1
      rwa [List.length_set] at this
    rw [List.getElem?_set_self hl] at e
    have e1 : R = Q := Option.some.inj (Option.some.inj e)
    rw [List.getElem?_set_self (by rw [h.len]; exact hl)]
    exact ⟨v, rfl, e1 ▸ hv⟩
  · rw [List.getElem?_set_ne hij] at e ⊢
    exact h.at_ j Q e
/-- something less is told of a slot -/
theorem Slots.less {M : Hp} {σ : St} {es es' : Es} (h : Slots M σ es) (l : es'.length = es.length) (k : ∀ (i : Nat) (R : Rep), es'[i]? = some (some R) → ∃ R' : Rep, es[i]? = some (some R') ∧ ∀ v, R'.P v M → R.P v M) : Slots M σ es' :=
  ⟨h.len.trans l.symm, fun i R e => by
    obtain ⟨R', e', c⟩ := k i R e
    obtain ⟨v, e1, e2⟩ := h.at_ i R' e'
    exact ⟨v, e1, c v e2⟩⟩
structure SatE (b : Option Addr) (S : List Addr) (hs : Hs) (es : Es) (σ : St) (H : Hp) : Prop where
  ok : HpOk b S H
  sl : Slots (msk S H) σ es
  ht : ∀ x ∈ hs, x.1 ∈ S ∧ b ≠ some x.1 ∧ ∃ o, H x.1 = some o ∧ x.2.P o (msk S H)
theorem SatE.mono {b : Option Addr} {S : List Addr} {hs : Hs} {es : Es} {σ : St} {H H' : Hp} (h : SatE b S hs es σ H) (f : Fr b S H H') : SatE b S hs es σ H' := by
  refine ⟨f.ok, h.sl.up f.dat, fun x hx => ?_⟩
  obtain ⟨h1, h2, o, h3, h4⟩ := h.ht x hx
  exact ⟨h1, h2, o, (f.hot _ h1 h2).trans h3, x.2.up f.dat h4⟩
/-! ### what an expression comes to -/
def EV (b : Option Addr) (hs : Hs) (es : Es) (te : TE) (R : Rep) : Prop := ∀ (S : List Addr) (σ : St) (H : Hp), SatE b S hs es σ H → ∀ Q : VK, (∀ v H', Fr b S H H' → R.P v (msk S H') → Q v H') → te σ H Q
def ET (b : Option Addr) (hs : Hs) (es : Es) (tt : TT) (P : Bool → Prop) : Prop := ∀ (S : List Addr) (σ : St) (H : Hp), SatE b S hs es σ H → ∀ Q : Bool → Hp → Prop, (∀ c H', Fr b S H H' → P c → Q c H') → tt σ H Q
def EA (b : Option Addr) (hs : Hs) (es : Es) (ta : TA) (Rs : List Rep) : Prop := ∀ (S : List Addr) (σ : St) (H : Hp), SatE b S hs es σ H → ∀ Q : List V → Hp → Prop, (∀ vs H', Fr b S H H' → All2 Rs vs (msk S H') → Q vs H') → ta σ H Q
def EO (b : Option Addr) (hs : Hs) (es : Es) (to : TO) (P : Option Int → Prop) : Prop := ∀ (S : List Addr) (σ : St) (H : Hp), SatE b S hs es σ H → ∀ Q : Option Int → Hp → Prop, (∀ v H', Fr b S H H' → P v → Q v H') → to σ H Q
/-- a new object, nothing else holds it: its contents -/
structure FrN (b : Option Addr) (S : List Addr) (H : Hp) (p : Addr) (H' : Hp) : Prop where
  new : p ∉ S
  ok : HpOk b (p :: S) H'
  dat : Same (msk S H) (msk (p :: S) H')
  hot : ∀ q ∈ S, b ≠ some q → H' q = H q
def EN (b : Option Addr) (hs : Hs) (es : Es) (te : TE) (h : HRep) : Prop := ∀ (S : List Addr) (σ : St) (H : Hp), SatE b S hs es σ H → ∀ Q : VK, (∀ p o H', FrN b S H p H' → H' p = some o → h.P o (msk (p :: S) H') → Q (.ref p) H') → te σ H Q
section
variable {b : Option Addr} {S : List Addr} {hs : Hs} {es : Es} {σ : St} {H H1 H' : Hp} {ta tb tc te : TE} {R Ra Rb : Rep} {K : PySem.W.Frag}
theorem FrN.fr {p : Addr} (f : FrN b S H p H') (k : HpOk b S H) : Fr b S H H' := by
  refine ⟨⟨fun q hq => f.ok.ob q (List.mem_cons_of_mem _ hq), fun a ha => ?_⟩, f.dat.trans (msk_sub fun q hq => List.mem_cons_of_mem _ hq), f.hot⟩
  exact ⟨(k.bag a ha).1, (f.ok.bag a ha).2.up (msk_sub fun q hq => List.mem_cons_of_mem _ hq)⟩
theorem Fr.back {p : Addr} (f : Fr b S H H') (h : H' p = none) : p ∉ S ∧ H p = none := by
  have hp : p ∉ S := fun q => f.ok.al p q h
  refine ⟨hp, ?_⟩
  cases e : H p with
  | none => rfl
  | some o =>
    have e1 : msk S H p = some o := (msk_out hp).trans e
    have e2 := f.dat _ _ e1
    rw [msk_out hp, h] at e2
    cases e2
/-- a new object -/
theorem FrN.mk' {p : Addr} {o : HO} (f : Fr b S H H1) (h : H1 p = none) (no : nt o = true) : FrN b S H p (upd H1 p o) := by
  obtain ⟨h1, h2⟩ := f.back h
  refine ⟨h1, f.ok.hot h no, ?_, fun q hq n => ?_⟩
  · rw [msk_cons h]
    exact f.dat
  · rw [upd_ne fun e => h1 (by rw [← e]; exact hq)]
    exact f.hot q hq n
theorem FrN.after {p : Addr} (f : Fr b S H H1) (g : FrN b S H1 p H') : FrN b S H p H' := ⟨g.new, g.ok, f.dat.trans g.dat, fun q hq n => (g.hot q hq n).trans (f.hot q hq n)⟩
/-- a tuple is never one of the places -/
theorem tup_out {p : Addr} {vs : List V} (k : HpOk b S H) (h : H p = some (.tup vs)) : p ∉ S := fun q => by
  obtain ⟨o, ho, no⟩ := k.ob p q
  rw [h] at ho
  cases ho
  cases no
/-- new things are data, too -/
theorem EN.ev {h : HRep} (e : EN b hs es te h) : EV b hs es te (rOf h) := fun S σ H s Q q => e S σ H s Q fun p o H' f ho hh => q (.ref p) H' (f.fr s.ok)
  ⟨p, o, rfl, (msk_out f.new).trans ho, h.up (msk_sub fun _ hq => List.mem_cons_of_mem _ hq) hh⟩
theorem EV.up {R' : Rep} (e : EV b hs es te R) (h : ∀ v M, R.P v M → R'.P v M) : EV b hs es te R' := fun S σ H s Q q => e S σ H s Q fun v H' f r => q v H' f (h _ _ r)
theorem ev_var {i : Nat} (h : es[i]? = some (some R)) : EV b hs es (tVar i) R := fun S σ H s Q q => by
  obtain ⟨v, e1, e2⟩ := s.sl.at_ i R h
  exact ⟨v, e1, q v H (Fr.refl s.ok) e2⟩
theorem ev_c {v : V} : EV b hs es (tC v) (rC v) := fun S σ H s Q q => q v H (Fr.refl s.ok) rfl
/-- two operands -/
theorem ev_op {r : R2} (ha : EV b hs es ta Ra) (hb : EV b hs es tb Rb)
    (hr : ∀ (S : List Addr) (H : Hp) (x y : V), HpOk b S H → (∀ x ∈ hs, x.1 ∈ S ∧ b ≠ some x.1 ∧ ∃ o, H x.1 = some o ∧ x.2.P o (msk S H)) → Ra.P x (msk S H) → Rb.P y (msk S H) → ∀ Q : VK, (∀ v H', Fr b S H H' → R.P v (msk S H') → Q v H') → r x y H Q) : EV b hs es (tOp r ta tb) R := fun S σ H s Q q =>
  ha S σ H s _ fun x H1 f1 r1 => hb S σ H1 (s.mono f1) _ fun y H2 f2 r2 => hr S H2 x y f2.ok ((s.mono f1).mono f2).ht (Ra.up f2.dat r1) r2 Q fun v H3 f3 r3 => q v H3 ((f1.trans f2).trans f3) r3
/-- whole numbers -/
theorem ev_I0 {g : Int → Int → V} {i j : Int} (ha : EV b hs es ta (rInt i)) (hb : EV b hs es tb (rInt j)) : EV b hs es (tOp (rI0 g) ta tb) (rC (g i j)) :=
  ev_op ha hb fun S H x y k _ e1 e2 Q q => ⟨i, j, e1, e2, q _ H (Fr.refl k) rfl⟩
theorem ev_I {C : Int → Int → Prop} {g : Int → Int → V} {i j : Int} (ha : EV b hs es ta (rInt i)) (hb : EV b hs es tb (rInt j)) (hc : C i j) : EV b hs es (tOp (rI C g) ta tb) (rC (g i j)) :=
  ev_op ha hb fun S H x y k _ e1 e2 Q q => ⟨i, j, e1, e2, hc, q _ H (Fr.refl k) rfl⟩
end
end L2.K9A
end
section
set_option Elab.async false
set_option linter.all false
set_option maxRecDepth 100000
set_option maxHeartbeats 4000000
/-! rules that the layer lacks, part 1 -/
namespace L2.K9R
open PySem PySem.Spec PyProof.Rows L2
section
variable {X : Cx}
/-- an expression that is never reached -/
def tNo : TE := fun _ _ _ => False
theorem pe_never {e : Expr} : PE X e tNo := ⟨fun _ _ _ _ _ _ h => h.elim⟩
/-- o.f as a target -/
def gFld (K : PySem.W.Frag) (to : TE) (f : Str) : TG := fun v σ H Q => to σ H fun x H1 => ∃ a C dx fs, x = .ref a ∧ H1 a = some (.ins C dx fs) ∧ Cls K C ∧ NoAttr K C f ∧ fs.length < 1000 ∧ Q σ (upd H1 a (.ins C dx (putF f v fs)))
theorem pg_fld {o : Expr} {f : Str} {pos : Pos} {to : TE} (ho : PE X o to) : PG X (.Attribute o f pos) (gFld X.K to f) := by
  refine ⟨fun pins s σ H v u Q I r h => ?_⟩
  rw [arm_assign_Attribute]
  refine wpAny_bind (wpAny_holding (thn (ho.run pins s σ H _ I h) fun ov s1 ⟨x, H1, I1, rx, a, C, dx, fs, ex, ea, c, n, l, q⟩ => ?_))
  subst ex
  obtain rfl : ov = Value.ref a := rx
  refine wpAny_bind (wpAny_standAt (wpAny_bind (wpAny_holding (setattr_ok I1 ea c n l r fun s2 I2 => ?_))))
  first | exact wpAny_release ⟨σ, _, I2, q⟩ | exact wpAny_pure ⟨σ, _, I2, q⟩

/-- o.m(k = v, ..), keywords alone -/
def tMethK (C : Addr) (m : Str) (sp : Sp) (gV : List V → List V → List V) (E : XK) (ta : TE) (tk : TA) : TE := fun σ H Q => ta σ H fun x H1 => ∃ a dx fs, x = .ref a ∧ H1 a = some (.ins C dx fs) ∧ fs.lookup m = none ∧ tk σ H1 fun zs H2 => sp (gV [x] zs) H2 Q E
theorem pe_methK {CX : CXT} {k : Nat} {C f : Addr} {m : Str} {fd : FuncData} {ps ks : List Str} {sp : Sp} {E : XK} {o : Expr} {kws : List Keyword} {ta : TE} {tk : TA} {apos pos : Pos} {pl : Sem Bool} {g : List Value → List Value → List Value} {gV : List V → List V → List V}
    (he : PE X o ta) (c : Cls X.K C) (hm : Meth X.K C m f) (F : FnOk X.prog X.w X.K X.mg X.base CX k f fd ps sp) (hr : Room k X.A) (hb : KBinds X.K fd ps ks g gV) (hx : Passes CX X E) (hkw : PK X kws tk)
    (hall : (backToKw pos (keywordEach kws X.env)).all (·.1.isSome) = true := by rfl) (hks : (backToKw pos (keywordEach kws X.env)).filterMap (·.1) = ks := by rfl)
    (hpl : ((backTo pos (starEach [] X.env)).any (·.1) || (backToKw pos (keywordEach kws X.env)).any (·.1.isNone)) = false := by rfl)
    (ht : eval (.Call (.Attribute o m apos) [] kws pos) X.env = (do
      let ov ← eval o X.env
      standAt apos.atName
      let (f, first) ← holding [ov] (getMethod ov m pl)
      callWith pos f first (backTo pos (starEach [] X.env)) (backToKw pos (keywordEach kws X.env))) := by rfl) :
    PE X (.Call (.Attribute o m apos) [] kws pos) (tMethK C m sp gV E ta tk) := by
  refine ⟨fun pins s σ H Q I h => ?_⟩
  refine PySem.W.methodCall_KW (pl := pl) (thn (he.run pins s σ H _ I h) fun u s1 ⟨x, H1, I1, rx, a, dx, fs, ex, ea, l, q⟩ => ?_) ht
  subst ex
  obtain rfl : u = Value.ref a := rx
  refine getmeth_ok I1 ea c hm l ?_
  refine PySem.W.callWith_KW0 (first := [.ref a]) (h₀ := X.base) I.ok.mod.kin hm.kp hall ?_ hpl
  refine thn (hkw.run pos pins s1 σ H1 _ I1 q) fun ws s2 ⟨zs, H2, I2, rz, q2⟩ => ⟨I2.kIn, ?_⟩
  rw [hks]
  exact run_fnk (us := [.ref a]) (vs := [.ref a]) F hr hb hx I2 (.cons rfl .nil) rz q2

/-- {k: v}, one pair, the key a tuple of ints and texts -/
def tDispT (tk tv : TE) : TE := fun σ H Q => ∀ p, H p = none → tk σ (upd H p (.dT [])) fun x H1 => tv σ H1 fun y H2 => H2 p = some (.dT []) ∧ ∃ (a : Addr) (ks : List Key), x = .ref a ∧ H2 a = some (.tup (ks.map kV)) ∧ Q (.ref p) (upd H2 p (.dT [(ks, y)]))
theorem pe_dispT {k v : Expr} {pos : Pos} {tk tv : TE} (hu : X.A.units + 1 < cLine) (hk : PE X k tk) (hv : PE X v tv) : PE X (.Dict [some k] [v] pos) (tDispT tk tv) := by
  refine ⟨fun pins s σ H Q I q => ?_⟩
  have hn := I.hok.fresh (Nat.le_refl s.heap.objs.size)
  have I1 := I.laid (a := s.heap.objs.size) (o := .dT []) (h' := s.heap.push { cls := .type "dict", data := .dict #[] }) (t' := s.toks) (fun _ _ q => Heap.get?_push_of_some _ q) (Nat.le_refl _) (dt_empty s.heap I.big)
  have q0 := q _ hn
  rw [arm_eval_Dict, zip_pairTrees [some k] [v] X.env pos rfl rfl, dictDisplay_pairs (pairTrees [some k] [v] X.env pos) (by simp [pairTrees]) (by simp [pairTrees])]
  refine wpAny_bind (wpAny_standAt (wpAny_bind (wpAny_subDictH (knd := tupleKind (mixKind X.prog X.w)) (by show X.A.units < cLine; omega) (by simp [pairTrees]) ?_)))
  refine pairTrees_cons_walk (thn (hk.run pins _ σ _ _ I1 q0) fun u s1 ⟨x, H1, I2, rx, q1⟩ => thn (hv.run pins s1 σ H1 _ I2 q1) fun w2 s2 ⟨y, H2, I3, ry, e, a, ks, ex, ea, q2⟩ => pairTrees_nil_walk ?_)
  subst ex
  obtain rfl : u = Value.ref a := rx
  obtain ⟨z, hd, xs, r0, dd⟩ := dt_of I3.hok e
  cases r0
  refine ⟨[(ks, a, w2)], ⟨rfl, rfl, key_of I3.hok ea, True.intro⟩, dd, fun h' tk dd' hs => wpAny_pure ⟨.ref s.heap.objs.size, _, ?_, rfl, q2⟩⟩
  obtain ⟨ob, es, ep, hq, h2, h3, h4, _, h5⟩ := dd'
  have hne : ∀ c ys, H2 c = some (.tup ys) → (upd H2 s.heap.objs.size (.dT [(ks, y)])) c = some (.tup ys) := fun c ys ec => by
    rw [upd_ne (ne_of ec e (fun z => nomatch z))]
    exact ec
  exact d_write I3 (by rw [e]; exact True.intro) hs ⟨ob, hq⟩ ⟨by show 1 ≤ sizeLine; decide, hd, [(ks, a, w2)], .cons ⟨rfl, hne a _ ea, ry⟩ .nil, ob, es, ep, hq, h2, h3, h4, h5⟩
end
end L2.K9R
end
section
set_option Elab.async false
set_option linter.all false
set_option maxRecDepth 100000
set_option maxHeartbeats 4000000
/-! != by an own ==, len by an own __len__ -/
namespace L2.K9N
open PySem PySem.Spec PyProof.Rows PySem.SeqAt
section
variable {M : Model} {prog : Program} {w : World} {A : Around} {E : Value → Shared → Prop} {s : Shared} {K : PySem.W.Frag} {x y C f : Addr} {ox oy : Obj} {od od' : Option Obj}
theorem ifBound_objNe {args : List Value} {Q : Option Value → Shared → Prop} (X : K.In s.heap) (I : PySem.W.InstAt s.heap x ox C od) (hs : PySem.W.findIn K (.ref C) "__ne__" = some (some (.builtin "object.__ne__")))
    (h : wpAny M A (call (.builtin "object.__ne__") (.ref x :: args)) (fun v => Q (some v)) E s) : wpAny M A (callSpecialIfBound? (.ref x) "__ne__" args) Q E s := by
  simp only [callSpecialIfBound?, bindSpecialIfBound?]
  refine wpAny_holding (wpAny_bind (wpAny_bind (wpAny_bind (I.type.here ((PySem.W.looks_findIn X hs).here ?_)))))
  refine wpAny_bind (wpAny_askSetting (wpAny_ite ?_))
  have fin : wpAny M A (call (.builtin "object.__ne__") ([.ref x] ++ args) >>= fun v => pure (some v)) Q E s := wpAny_bind (wpAny_mono h (fun v s' h' => wpAny_pure h') fun _ _ h' => h')
  split
  · exact wpAny_bind (wpAny_of_eq (F.cmp_object.ne.bind _) (wpAny_pure (by exact fin)))
  · exact wpAny_tryCatch (wpAny_bind (wpAny_of_eq (F.cmp_object.ne.bind _) (wpAny_pure (by exact fin))))
theorem objNe_K (X : K.In s.heap) (I : PySem.W.InstAt s.heap x ox C od) (hu : A.units < cLine) (he : PySem.W.findIn K (.ref C) "__eq__" = some (some (.ref f))) (hf : PySem.W.isFn K (.ref f) = true) {Q : Fin → Shared → Prop}
    (hcall : wpAny (model prog w) A (call (.ref f) [.ref x, .ref y]) (fun v s' => ∃ b, v = .bool b ∧ Q (.done (.ret (.bool (!b)))) s') E s) :
    wpAny (model prog w) A (Builtin.«object.__ne__» ⟨[.ref x, .ref y], []⟩) Q E s := by
  obtain ⟨h, g, d, t, os⟩ := s
  unfold Builtin.«object.__ne__»
  repeat (first
    | with_reducible refine wpAny_cRoomFor hu ?_
    | (refine wpAny_bind (m := callSpecialIfBound? (.ref x) (Str.ofString "__eq__") [.ref y])
        (PySem.W.ifBound_K X I he hf (wpAny_mono hcall (fun r s' hr => by
          obtain ⟨b, rfl, hq⟩ := hr
          repeat (first | exact hq | exact wpAny_pure hq | exact wpAny_truthy_bool hq | (refine wpAny_bind (m := truthy (.bool _)) (wpAny_truthy_bool ?_)) | wp_step)) fun _ _ e => e)))
    | wp_step)
theorem rc_ne_K {Q : Value → Shared → Prop} (hu : A.units + 1 < cLine) (X : K.In s.heap) (I : PySem.W.InstAt s.heap x ox C od) (J : PySem.W.InstAt s.heap y oy C od') (hm : PySem.W.mroIn K C (.type "object") = some true) (hne : PySem.W.findIn K (.ref C) "__ne__" = some (some (.builtin "object.__ne__")))
    (he : PySem.W.findIn K (.ref C) "__eq__" = some (some (.ref f))) (hf : PySem.W.isFn K (.ref f) = true)
    (hcall : wpAny (model prog w) A.in1 (call (.ref f) [.ref x, .ref y]) (fun v s' => ∃ b, v = .bool b ∧ Q (.bool (!b)) s') E s) : wpAny (model prog w) A (richCompare .NotEq (.ref x) (.ref y)) Q E s := by
  have one : wpAny (model prog w) A (tryCompare (.ref x) "__ne__" (.ref y)) (fun r s' => ∃ b, r = some (.bool (!b)) ∧ Q (.bool (!b)) s') E s := by
    unfold tryCompare
    refine wpAny_bind (ifBound_objNe X I hne (wpAny_call (codeAny_call_builtin F.cmp_object.ne.plain F.cmpEntry_ne (PySem.W.check_slot F.cmpKind_ne F.cmpSplit_ne (I.type.andThen (PySem.W.looks_mroIn X hm)) (F.cmpArgs_ne _ _) (objNe_K (A := A.in1) X I hu he hf (wpAny_mono hcall (fun v s' hv => ?_) fun _ _ e => e))))))
    obtain ⟨b, rfl, hq⟩ := hv
    exact ⟨b, rfl, wpAny_pure ⟨b, rfl, hq⟩⟩
  unfold richCompare
  simp only [oneThing_ref]
  refine wpAny_holding ?_
  refine wpAny_bind (wpAny_cRoomFor (Nat.lt_of_succ_lt hu) ?_)
  rw [cmpInfo_NotEq]
  dsimp only
  refine wpAny_bind (I.type.here (wpAny_bind (J.type.here ?_)))
  rw [show (Value.ref C != Value.ref C) = false from by simp]
  simp only [Bool.false_eq_true, if_false]
  refine wpAny_bind (wpAny_pure ?_)
  simp only [Bool.false_eq_true, if_false]
  refine wpAny_bind (wpAny_mono one (fun r s' z => ?_) fun _ _ e => e)
  obtain ⟨b, rfl, hq⟩ := z
  exact wpAny_pure hq
end
end L2.K9N
namespace L2.K9R
open PySem PySem.Spec PyProof.Rows L2
open C8 (Cal Met pe_c pe_mt pe_mt0 InsC call_isC pe_gc)
/-- what != asks of a class with an own == -/
structure NeC (K : PySem.W.Frag) (C : Addr) : Prop where
  ne : PySem.W.findIn K (.ref C) "__ne__" = some (some (.builtin "object.__ne__"))
  hm : PySem.W.mroIn K C (.type "object") = some true
section
variable {X : Cx}
theorem run_met1 {k n : Nat} {C a : Addr} {m : Str} {sp : Sp} {A : Around} {pins : List (Addr × Obj)} {σ : L2.St} {H : Hp} {s : Shared} {Q : VK} {us : List Value} {vs : List V} {f : Addr} {fd : FuncData} {ps : List Str} (F : FnOk X.prog X.w X.K X.mg X.base CX0 k f fd ps sp) (bi : Binds X.K fd ps []) (hr : Room k A) (hfr : A.frames = X.A.frames)
    (I : Inv X pins σ H s) (r : Vals vs us) (q : sp vs H Q E0) : wpAny (model X.prog X.w) A (call (.ref f) us) (EP X pins σ Q) X.xe s := by
  have e0 : Env0 X.prog X.w X.K X.mg X.base A X.stack s H := by
    have e := I.env0
    exact ⟨by rw [hfr]; exact e.frames, e.mod, e.bs, e.bsz, e.funs, e.frf, e.hok, e.bare⟩
  have hl := F.len _ _ _ _ q
  refine wpAny_call (codeAny_mono (F.run A X.stack s H ⟨us, []⟩ us vs Q E0 hr e0 (by
    have := bi s us I.kIn (by rw [List.append_nil, ← r.length]; exact hl)
    rwa [List.append_nil] at this) r q) fun r s' hq => ?_)
  cases r with
  | error e => exact pass0 pins σ H s e s' I hq
  | ok fl =>
    cases fl with
    | ret w => exact I.after hq
    | next => exact False.elim hq
    | brk => exact False.elim hq
    | cont => exact False.elim hq
/-- x != y by an own == -/
def rNeP (C : Addr) (sp : Sp) : R2 := fun x y H Q => ∃ a b dx dy fs gs, x = .ref a ∧ y = .ref b ∧ H a = some (.ins C dx fs) ∧ H b = some (.ins C dy gs) ∧ sp [.ref a, .ref b] H (fun v H' => ∃ c, v = .bl c ∧ Q (.bl (!c)) H') E0
theorem op_neP {k j : Nat} {C : Addr} {sp : Sp} (c : Met X.prog X.w X.K X.mg X.base k C "__eq__" sp []) (nc : NeC X.K C) (hr : Room j X.A) (hk : k + 1 ≤ j) : OpR X (compareOp .NotEq) (rNeP C sp) := by
  intro pins s σ H x y v u Q I rx ry h
  obtain ⟨a, b, dx, dy, fs, gs, rfl, rfl, ha, hb, q⟩ := h
  cases rx
  cases ry
  obtain ⟨f, fd, ps, ds, hcl, hme, F, bi, d⟩ := c.ex
  cases d
  obtain ⟨mA, J, _⟩ := ins_get I.hok ha
  obtain ⟨mB, J', _⟩ := ins_get I.hok hb
  obtain ⟨od, J, _⟩ := J.look
  obtain ⟨od', J', _⟩ := J'.look
  have hr1 : Room k X.A.in1 := (hr.mono hk).in1
  show wpAny (model X.prog X.w) X.A (richCompare .NotEq (.ref a) (.ref b)) (EP X pins σ Q) X.xe s
  refine L2.K9N.rc_ne_K (hu_of hr) I.kIn J J' nc.hm nc.ne hme.at_ hme.fn ?_
  refine wpAny_mono (run_met1 (n := 0) (a := a) (m := "") (C := C) F bi hr1 rfl (us := [.ref a, .ref b]) (vs := [.ref a, .ref b]) I (.cons rfl (.cons rfl .nil)) q) (fun r s' z => ?_) fun _ _ x => x
  obtain ⟨v, H', I', rv, c, ev, qq⟩ := z
  subst ev
  cases rv
  exact ⟨c, rfl, .bl (!c), H', I', rfl, qq⟩
/-- len(o) by an own __len__ -/
def rLenP (C : Addr) (sp : Sp) : List V → Hp → VK → Prop := fun vs H Q => ∃ a dx fs, vs = [.ref a] ∧ H a = some (.ins C dx fs) ∧ sp [.ref a] H (fun v H' => ∃ n : Int, v = .int n ∧ (0 ≤ n ∧ n < 2 ^ 31) ∧ Q (.int n) H') E0
theorem call_lenP {k j : Nat} {C : Addr} {sp : Sp} (c : Met X.prog X.w X.K X.mg X.base k C "__len__" sp []) (hr : Room j X.A) (hk : k + 1 ≤ j) : CallR X (.builtin "len") (rLenP C sp) := by
  intro pins s σ H xs us Q I r h
  obtain ⟨a, dx, fs, rfl, ha, q⟩ := h
  obtain ⟨u, rfl, ru⟩ := r.one
  cases ru
  obtain ⟨f, fd, ps, ds, hcl, hme, F, bi, d⟩ := c.ex
  cases d
  obtain ⟨mA, J, _⟩ := ins_get I.hok ha
  obtain ⟨od, J, _⟩ := J.look
  obtain ⟨m, hF⟩ := I.fr
  have hr1 : Room k X.A.in1 := (hr.mono hk).in1
  refine PySem.W.len_K hF I.ok.mod.kin J hme.at_ hme.fn ?_
  refine wpAny_mono (run_met1 (n := 0) (a := a) (m := "") (C := C) F bi hr1 rfl (us := [.ref a]) (vs := [.ref a]) I (.cons rfl .nil) q) (fun r s' z => ?_) fun _ _ x => x
  obtain ⟨v, H', I', rv, n, ev, hn, qq⟩ := z
  subst ev
  obtain ⟨t, e⟩ := (show ∃ t, r = Value.int n t from rv)
  subst e
  exact ⟨⟨hn.1, by omega⟩, .int n, H', I'.tok _, ⟨_, rfl⟩, qq⟩
end
end L2.K9R
end
section
set_option Elab.async false
set_option linter.all false
set_option maxRecDepth 100000
set_option maxHeartbeats 4000000
/-! enumerate of a list or of a tuple -/
namespace PySem.K9E
open PySem
theorem meets_enumerate_newA {v : Value} {o : Obj} {H : Heap → Prop} (B : Begins v o H) :
    Meets (Builtin.«enumerate.__new__» ⟨[.type "enumerate", v], []⟩) (fun _ R s => H s.heap ∧
      R (.ok (.ret (.ref (s.heap.push o).objs.size))) { s with heap := (s.heap.push o).push { cls := .type "enumerate", data := .fields #[.none, .bool false, .ref s.heap.objs.size, rawInt 0, .none, .none] } }) :=
  .of_wp fun prog w A R s h => by
    obtain ⟨hp, g, d, tk, os⟩ := s
    obtain ⟨h1, h⟩ := h
    have hsub := sub_enumerate
    have q1 : ∀ {A' : Around} {E : Value → Shared → Prop} {Q : Value → Shared → Prop}, Q (.ref hp.objs.size) ⟨hp.push o, g, d, tk, os⟩ → wpAny (model prog w) A' (pyIter v) Q E ⟨hp, g, d, tk, os⟩ :=
      fun q => B.iter prog w _ _ ⟨hp, g, d, tk, os⟩ _ h1 q
    wp_walk using q1
    refine wpAny_stack_any fun st => wpAny_pure ?_
    split
    · rename_i c _ _ _ _ _
      cases (c == Value.type "enumerate")
      · wp_walk using q1
        exact ⟨_, rfl, h⟩
      · wp_walk using q1
        exact ⟨_, rfl, h⟩
    · wp_walk using q1
      exact ⟨_, rfl, h⟩
theorem call_enumerate_any {prog : Program} {w : World} {A : Around} {E : Value → Shared → Prop} {s : Shared} {v : Value} {o : Obj} {H : Heap → Prop} {Q : Value → Shared → Prop} (B : Begins v o H) (h1 : H s.heap)
    (h : ∀ h', IsEnum h' (s.heap.objs.size + 1) s.heap.objs.size 0 .none → h'.get? s.heap.objs.size = some o → h'.objs.size = s.heap.objs.size + 2 →
      (∀ b o, s.heap.get? b = some o → h'.get? b = some o) → Q (.ref (s.heap.objs.size + 1)) { s with heap := h' }) :
    wpAny (model prog w) A (call (.type "enumerate") [v]) Q E s := by
  refine callType_new F.called_enumerate (by decide) (F.typeCall_enumerate_1 _) (F.newCall_enumerate_1 _) (fun obj => F.args_object_init_2 obj _) F.entry_enumerate_new
    (meets_enumerate_newA B) ⟨h1, ?_⟩
  have hz : (s.heap.push o).objs.size = s.heap.objs.size + 1 := Heap.size_push ..
  show _ ∧ _
  rw [hz]
  have he : IsEnum ((s.heap.push o).push { cls := .type "enumerate", data := .fields #[.none, .bool false, .ref s.heap.objs.size, rawInt 0, .none, .none] }) (s.heap.objs.size + 1) s.heap.objs.size 0 .none := by
    have := Heap.get?_push_size (s.heap.push o) (o := { cls := .type "enumerate", data := .fields #[.none, .bool false, .ref s.heap.objs.size, rawInt 0, .none, .none] }) rfl
    rw [hz] at this
    exact this
  refine ⟨⟨_, he, rfl⟩, h _ he (Heap.get?_push_of_some _ (Heap.get?_push_size _ B.free)) (by rw [Heap.size_push, hz]) fun b o x => Heap.get?_push_of_some _ (Heap.get?_push_of_some _ x)⟩
theorem pyNext_enumT_end {prog : Program} {w : World} {A : Around} {E : Value → Shared → Prop} {s : Shared} {e it l : Addr} {i : Nat} {items : Array Value} {old : Value} {Q : Option Value → Shared → Prop} (hh : A.handled = none)
    (he : IsEnum s.heap e it i old) (hit : s.heap.IsTupleIter it l i) (hl : s.heap.IsTuple l items) (hx : items[i]? = none)
    (hQ : ∀ h', Heap.ExtBut it s.heap h' → Q none { s with heap := h' }) : wpAny (model prog w) A (pyNext (.ref e)) Q E s := by
  have hT : s.TypeIs (.ref e) "enumerate" := ⟨_, he, rfl⟩
  unfold pyNext
  refine wpAny_bind (wpAny_attempt (wpAny_callSpecial?_slot (name := Str.ofString "__next__") hT F.slot_enumerate_next
    (wpAny_call_entry F.slot_enumerate_next hT F.entry_enumerate_next ?_ (F.args_enumerate_next_1 _))))
  show wpAny _ _ (field (.ref e) 2 >>= _) _ _ _
  refine wpAny_bind (wpAny_field he rfl (x := .ref it) rfl ?_)
  refine wpAny_bind (wpAny_nextOf_tuple_end hh hit hl hx fun h' x he' hx' => ?_)
  obtain ⟨o, ho, hc⟩ := hx'
  refine wpAny_bind (wpAny_isInstance (T := "StopIteration") (b := true) ⟨o, ho, hc⟩ isSubtype_stop ?_)
  exact wpAny_pure (hQ _ he')
end PySem.K9E
namespace L2.K9R
open PySem PySem.Spec PyProof.Rows L2
/-- enumerate of a tuple -/
def IteT (K : PySem.W.Frag) (a : Addr) : It :=
  ⟨fun i H => ∃ (xs : List V) (x : V), SqT K H a xs ∧ xs[i]? = some x, fun i H v H' => ∃ T x, v = .ref T ∧ H T = none ∧ H' = upd H T (.tup [.int (i : Nat), x]) ∧ ∀ xs, SqT K H a xs → xs[i]? = some x, fun i H => ∃ xs : List V, SqT K H a xs ∧ xs.length ≤ i⟩
theorem turn_enumT {P : Program} {w : World} {K : PySem.W.Frag} {elts : List Expr} {kk : Nat} {tpos : Pos} (a e it : Addr) :
    Turn P w K (.Tuple elts kk tpos) (IteT K a) [e, it] e (fun i h => (∃ old, IsEnum h e it ((i : Nat) : Int) old) ∧ h.IsTupleIter it a i ∧ e ≠ it) where
  mem := by simp
  obj := fun i h st b hb => by
    obtain ⟨⟨old, he⟩, ⟨o, ho, hc, hd⟩, _⟩ := st
    have e' : b = e ∨ b = it := by simpa using hb
    rcases e' with z | z
    · rw [z]; exact ⟨_, he, fun v q => nomatch q⟩
    · rw [z]; exact ⟨o, ho, fun v q => by rw [hd] at q; cases q⟩
  keep := fun i h h' st k => let ⟨⟨old, he⟩, hi, hne⟩ := st; ⟨⟨old, k e (by simp) _ he⟩, hi.at fun o q => k it (by simp) o q, hne⟩
  item := by
    intro X hP hw hK hc i pins s σ H E I hf st hg
    subst hP hw hK
    obtain ⟨⟨old, he⟩, hit, hne⟩ := st
    obtain ⟨xs, x, hq, hx⟩ := hg
    obtain ⟨its, rv, p, hz⟩ := I.tuple hq
    obtain ⟨u, hu, ru⟩ := rv.get hx
    have hel : e < s.heap.objs.size := Heap.lt_size he
    have hil : it < s.heap.objs.size := by obtain ⟨_, q, _⟩ := hit; exact Heap.lt_size q
    have hai : a ≠ it := fun z => by
      obtain ⟨o, ho, hc1, n, hd⟩ := id p
      obtain ⟨o2, ho2, hc2, hd2⟩ := hit
      rw [z] at ho
      cases ho.symm.trans ho2
      rw [hd] at hd2
      cases hd2
    have hae : a ≠ e := fun z => by
      obtain ⟨o, ho, hc1, n, hd⟩ := id p
      rw [z] at ho
      cases ho.symm.trans he
      cases hd
    have hh : X.A.handled = none := I.ok.hd hc
    have hl : i < its.toArray.size := by
      have := (List.getElem?_eq_some_iff.mp hu).1
      simpa using this
    refine wpAny_pyNext_enum_itemD (PySem.Draws.tuple (A := X.A.in1) hh it a hai its.toArray) he ⟨hit, p⟩ hl hne (by
      intro z
      rcases List.mem_cons.mp z with z | z
      · exact hne z
      · exact hae (List.mem_singleton.mp z).symm) fun x' h' tk hx' ho hit' hT hsz hk => ?_
    have ex : x' = u := by
      have h1 : its.toArray[i]? = some x' := hx'
      have h2 : its.toArray[i]? = some u := by simpa using hu
      exact Option.some.inj (h1.symm.trans h2)
    subst ex
    refine ⟨_, rfl, wpAny_letOwnedTupleGo_enum (s := { s with heap := h', toks := tk + 1 }) ho fun h'' he' sb => ?_⟩
    have hT2 : h''.get? s.heap.objs.size = some { cls := .type "tuple", data := .seq #[.int i tk, x'] } := (sb.2 _ (Nat.ne_of_gt hel)).trans hT
    have new : ObjOk X.prog X.w (upd H s.heap.objs.size (.tup [.int (i : Nat), x])) h'' s.heap.objs.size (.tup [.int (i : Nat), x]) :=
      ⟨by show 2 ≤ sizeLine; decide, [.int i tk, x'], .cons ⟨_, rfl⟩ (.cons ru .nil), ⟨_, hT2, rfl, _, rfl⟩⟩
    have I1 : Inv X pins σ (upd H s.heap.objs.size (.tup [.int (i : Nat), x])) { s with heap := h'', toks := tk + 1 } :=
      I.turnedNew (ch := [e, it]) (fun b ob hb q => (sb.2 b (fun z => hb (by simp [z]))).trans (hk b ob (fun z => hb (by simp [z])) (fun z => hb (by simp [z])) q)) hf (Nat.le_refl _) new
    refine ⟨.ref s.heap.objs.size, _, I1, rfl, ⟨_, x, rfl, I.hok.fresh (Nat.le_refl _), rfl, fun ys hy => ?_⟩, ⟨⟨x', ?_⟩, hit'.1.at fun o q => (sb.2 it (Ne.symm hne)).trans q, hne⟩, fun b hb => ?_⟩
    · rw [I.tuple_inj hy hq]
      exact hx
    · have e1 : ((i + 1 : Nat) : Int) = (i : Int) + 1 := by omega
      rw [e1]; exact he'
    · have hb' : b < s.heap.objs.size := by
        have e' : b = e ∨ b = it := by simpa using hb
        rcases e' with z | z
        · rw [z]; exact hel
        · rw [z]; exact hil
      rw [upd_ne (Nat.ne_of_lt hb')]
      exact (hf b hb).1
  done := by
    intro X hP hw hK hc i pins s σ H E I hf st hg
    subst hP hw hK
    obtain ⟨⟨old, he⟩, hit, hne⟩ := st
    obtain ⟨xs, hq, hx⟩ := hg
    obtain ⟨its, rv, p, hz⟩ := I.tuple hq
    obtain ⟨f0, f1, f2, f3, f4, f5⟩ := hf it (by simp)
    have hh : X.A.handled = none := I.ok.hd hc
    have hl := rv.length
    exact PySem.K9E.pyNext_enumT_end hh he hit p (by simp; omega) fun h' eb => ⟨rfl, I.turned (t' := s.toks) (fun b o hb q => eb b o hb q) f0 f1 f3 f4 f5⟩
  self := fun A i s Q E st h => let ⟨⟨_, he⟩, _⟩ := st; wpAny_pyIter_enum he h
def iEnumQ (K : PySem.W.Frag) (ta : TA) : TI := fun σ H R => ta σ H fun vs H1 => ∃ a xs, vs = [.ref a] ∧ ((SqL K H1 a xs ∧ R (Ite K a) H1) ∨ (SqT K H1 a xs ∧ R (IteT K a) H1))
theorem pi_enumQ {X : Cx} {e : Expr} {ta : TA} {p pos tpos : Pos} {elts : List Expr} {kk : Nat} (hg : Gl X "enumerate") (hm : X.mg "enumerate" = none) (ha : PA X [e] ta) (hs : starEach [e] X.env = [(false, eval e X.env)] := by rfl) :
    PI X (.Tuple elts kk tpos) (.Call (.Name "enumerate" p) [e] [] pos) (iEnumQ X.K ta) := by
  refine ⟨fun pins s σ H R I h => ?_⟩
  refine Call_ (ld_blt I hg hm boot_enumerate (PyProof.Rows.callWith_type1 (thn (ha.run pos pins s σ H _ I h) fun us s1 ⟨vs, H1, I1, r1, q1⟩ => ?_) hs rfl))
  obtain ⟨a, xs, ex, q⟩ := q1
  subst ex
  obtain ⟨u, rfl, ru⟩ := r1.one
  cases ru
  rcases q with ⟨hq, q⟩ | ⟨hq, q⟩
  · obtain ⟨its, rv, p', hz⟩ := I1.list hq
    refine call_enumerate_list p'.isList fun h' he hit hsz hk => wpAny_pyIter_enum he ?_
    have I2 : Inv X pins σ H1 { s1 with heap := h' } := I1.kept (t' := s1.toks) hk
    refine ⟨s1.heap.objs.size + 1, [s1.heap.objs.size + 1, s1.heap.objs.size], _, _, H1, rfl, I2, turn_enum a (s1.heap.objs.size + 1) s1.heap.objs.size, ⟨⟨.none, he⟩, hit, Nat.succ_ne_self _⟩, fun b hb => ?_, q⟩
    have e' : b = s1.heap.objs.size + 1 ∨ b = s1.heap.objs.size := by simpa using hb
    have hle : s1.heap.objs.size ≤ b := by
      rcases e' with z | z
      · rw [z]; exact Nat.le_add_right _ _
      · rw [z]; exact Nat.le_refl _
    exact I1.fpOk hle (I1.hok.fresh hle)
  · obtain ⟨its, rv, p', hz⟩ := I1.tuple hq
    refine PySem.K9E.call_enumerate_any (begins_tuple a its.toArray) p' fun h' he hit hsz hk => wpAny_pyIter_enum he ?_
    have I2 : Inv X pins σ H1 { s1 with heap := h' } := I1.kept (t' := s1.toks) hk
    refine ⟨s1.heap.objs.size + 1, [s1.heap.objs.size + 1, s1.heap.objs.size], _, _, H1, rfl, I2, turn_enumT a (s1.heap.objs.size + 1) s1.heap.objs.size, ⟨⟨.none, he⟩, ⟨_, hit, rfl, rfl⟩, Nat.succ_ne_self _⟩, fun b hb => ?_, q⟩
    have e' : b = s1.heap.objs.size + 1 ∨ b = s1.heap.objs.size := by simpa using hb
    have hle : s1.heap.objs.size ≤ b := by
      rcases e' with z | z
      · rw [z]; exact Nat.le_add_right _ _
      · rw [z]; exact Nat.le_refl _
    exact I1.fpOk hle (I1.hok.fresh hle)
end L2.K9R
end
section
set_option Elab.async false
set_option linter.all false
set_option maxRecDepth 100000
set_option maxHeartbeats 4000000
/-! sorted of pairs of texts: some arrangement -/
namespace Srt
open PySem PyProof.Rows PyProof.Rows
def IsPairS (h : Heap) (v : Value) (x y : PySem.Str) : Prop := ∃ a o t u n, v = .ref a ∧ h.get? a = some o ∧ o.cls = .type "tuple" ∧ o.data = .seq #[.str x t, .str y u] n
theorem IsPairS.keeps {h h' : Heap} {v : Value} {x y : PySem.Str} (p : IsPairS h v x y) (k : ∀ b o, h.get? b = some o → o.cls = .type "tuple" → h'.get? b = some o) : IsPairS h' v x y := by
  obtain ⟨a, o, t, u, n, e, ho, hc, hd⟩ := p
  exact ⟨a, o, t, u, n, e, k _ _ ho hc, hc, hd⟩
section
variable {prog : Program} {w : World} {A : Around} {E : Value → Shared → Prop} {s : Shared}
theorem pair_totS {vs : List Value} (hp : ∀ v ∈ vs, ∃ x y, IsPairS s.heap v x y) : Tot prog w A s (tuples' true) (fun p => p.1 ∈ vs) := by
  intro p q hm hm'
  obtain ⟨x, y, a, o, t, u, n, e, ho, hc, hd⟩ := hp _ hm
  obtain ⟨x', y', a', o', t', u', n', e', ho', hc', hd'⟩ := hp _ hm'
  rw [e, e']
  refine ⟨if x = x' then (if y = y' then false else decide (y.cps.toList < y'.cps.toList)) else decide (x.cps.toList < x'.cps.toList), ?_⟩
  refine PySem.W.kat_lt ho hd ho' hd' ?_
  show PySem.W.KatLex prog w A true (decide (2 < 2)) _ [(.str x t, .str x' t'), (.str y u, .str y' u')] 0 s
  refine PySem.W.kat_cons (SeqAt.EqAt.str_str x t x' t' prog w _ _ ?_)
  refine PySem.W.kat_go (fun e1 => ?_) (fun e1 => ?_)
  · have ex : x = x' := by simpa using e1
    refine PySem.W.kat_yes (PySem.W.kat_cons (SeqAt.EqAt.str_str y u y' u' prog w _ _ ?_))
    refine PySem.W.kat_go (fun e2 => ?_) (fun e2 => ?_)
    · have ey : y = y' := by simpa using e2
      have e3 : (if x = x' then (if y = y' then false else decide (y.cps.toList < y'.cps.toList)) else decide (x.cps.toList < x'.cps.toList)) = false := by rw [if_pos ex, if_pos ey]
      exact PySem.W.kat_yes (PySem.W.kat_nil ⟨rfl, e3.symm⟩)
    · have ey : ¬ y = y' := by simpa using e2
      have e3 : (if x = x' then (if y = y' then false else decide (y.cps.toList < y'.cps.toList)) else decide (x.cps.toList < x'.cps.toList)) = decide (y.cps.toList < y'.cps.toList) := by rw [if_pos ex, if_neg ey]
      exact PySem.W.kat_no (oneLt_any_str ⟨rfl, e3.symm⟩)
  · have ex : ¬ x = x' := by simpa using e1
    have e3 : (if x = x' then (if y = y' then false else decide (y.cps.toList < y'.cps.toList)) else decide (x.cps.toList < x'.cps.toList)) = decide (x.cps.toList < x'.cps.toList) := by rw [if_neg ex]
    exact PySem.W.kat_no (oneLt_any_str ⟨rfl, e3.symm⟩)
theorem firsts_ofS {h : Heap} : ∀ {vs : List Value}, (∀ v ∈ vs, ∃ x y, IsPairS h v x y) → ∃ fs : List Value, PySem.W.KatTups h vs fs ∧ fs.length = vs.length ∧ ∀ f ∈ fs, ∃ x t, f = Value.str x t
  | [], _ => ⟨[], PySem.W.KatTups.nil, rfl, fun _ hm => by simp at hm⟩
  | v :: vs, hp => by
    obtain ⟨fs, h1, h2, h3⟩ := firsts_ofS (vs := vs) fun v' hm => hp v' (List.mem_cons_of_mem _ hm)
    obtain ⟨x, y, a, o, t, u, n, e, ho, hc, hd⟩ := hp v (List.mem_cons_self ..)
    subst e
    refine ⟨.str x t :: fs, PySem.W.KatTups.cons ho hc hd rfl h1, by rw [List.length_cons, List.length_cons, h2], fun f hm => ?_⟩
    rcases List.mem_cons.mp hm with rfl | hm
    · exact ⟨x, t, rfl⟩
    · exact h3 f hm
theorem pairs_sortableS {a : Addr} {vs : List Value} (h0 : 0 < vs.length) (hp : ∀ v ∈ vs, ∃ x y, IsPairS s.heap v x y) (ha : ∀ o, s.heap.get? a = some o → o.cls ≠ .type "tuple") : Sortable prog w A s a vs := by
  intro h' keep
  have hp' : ∀ v ∈ vs, ∃ x y, IsPairS h' v x y := fun v hm => by
    obtain ⟨x, y, p⟩ := hp v hm
    exact ⟨x, y, p.keeps fun b o e c => keep b o (fun z => by subst z; exact ha o e c) e⟩
  obtain ⟨fs, h1, h2, h3⟩ := firsts_ofS hp'
  refine ⟨tuples' true, fun Q E hq => ?_, pair_totS hp'⟩
  refine PySem.W.kat_kind (T := .type "str") h1 (by omega) (fun f hm => ?_) (by rfl) ?_
  · obtain ⟨x, t, rfl⟩ := h3 f hm
    exact PySem.W.Looks.now
  · have e : (Value.type "str" != Value.type "tuple") = true := by first | decide +kernel | rfl | decide
    rw [e]
    exact hq
theorem sorted_pairsS {l : Addr} {vs : List Value} {Q : Value → Shared → Prop} (hl : s.heap.IsList l vs.toArray) (hz : vs.length ≤ sizeLine) (hp : ∀ v ∈ vs, ∃ x y, IsPairS s.heap v x y)
    (h : ∀ (h' : Heap) (d : Addr) (out : List Value), out.Perm vs → (∀ b o, s.heap.get? b = some o → h'.get? b = some o) → s.heap.objs.size ≤ d → (∃ n, h'.get? d = some (seqObj "list" out.toArray n)) → Q (.ref d) { s with heap := h' }) :
    wpAny (model prog w) A (call (.builtin "sorted") [.ref l]) Q E s := by
  refine sorted_any hl hz (fun h2 h₁ a ha k => ?_) fun out ho => ?_
  · refine pairs_sortableS (s := { s with heap := h₁ }) (by omega) (fun v hm => ?_) fun o e => ?_
    · obtain ⟨x, y, p⟩ := hp v hm
      exact ⟨x, y, p.keeps fun b o e _ => (k b o e).2⟩
    · have e' : some o = some (seqObj "list" vs.toArray 0) := e.symm.trans ha
      cases e'
      intro c
      exact absurd (Value.type.inj c) (by decide)
  · exact h _ _ out ho (fun b o e => sortedAll_old e) (Nat.le_succ _) (sortedAll_at s.heap vs out.toArray)
end
end Srt
namespace L2.K9R
open PySem PySem.Spec PyProof.Rows L2
section
variable {X : Cx}
/-- sorted of a list of pairs of texts: some arrangement -/
def rSortedSS (K : PySem.W.Frag) : List V → Hp → VK → Prop := fun vs H Q => ∃ (a : Addr) (xs : List V), vs = [.ref a] ∧ SqL K H a xs ∧ (∀ x ∈ xs, ∃ (t : Addr) (y z : Str), x = .ref t ∧ H t = some (.tup [.str y, .str z])) ∧ ∀ ys p, ys.Perm xs → H p = none → Q (.ref p) (upd H p (.lst ys))
theorem cr_sortedSS : CallR X (.builtin "sorted") (rSortedSS X.K) := by
  intro pins s σ H vs us Q I r h
  obtain ⟨a, xs, rfl, hs, hx, q⟩ := h
  obtain ⟨its, rv, hl, hz⟩ := I.list hs
  obtain ⟨u, rfl, ru⟩ := vals1 r
  obtain rfl : u = Value.ref a := ru
  obtain ⟨e1, e2⟩ := refs_back rv fun x m => by
    obtain ⟨t, _, _, e, _⟩ := hx x m
    exact ⟨t, e⟩
  refine Srt.sorted_pairsS hl.isList (by rw [← rv.length]; exact hz) (fun v hv => ?_) fun h' d out hp k hd hn => ?_
  · obtain ⟨t, rfl⟩ := e2 v hv
    have hm : V.ref t ∈ xs := by rw [e1]; exact List.mem_map.mpr ⟨_, hv, rfl⟩
    obtain ⟨t', i, j, e, ht⟩ := hx _ hm
    cases e
    obtain ⟨_, its2, r2, o, ho, hc, n, hd⟩ := I.hok _ _ ht
    obtain ⟨u1, u2, rfl, ri, rj⟩ := vals2 r2
    obtain ⟨t1, rfl⟩ := ri
    obtain ⟨t2, rfl⟩ := rj
    exact ⟨i, j, t, o, t1, t2, n, rfl, ho, hc, hd⟩
  · have h3 : ∀ u ∈ out, ∃ a, u = Value.ref a := fun u hu => e2 u (hp.mem_iff.mp hu)
    obtain ⟨n, hn⟩ := hn
    refine ⟨.ref d, upd H d (.lst (out.map backV)), I.laid (t' := s.toks) k hd ⟨?_, out, n, vals_back h3, hn⟩, rfl, q _ d ?_ (I.hok.fresh hd)⟩
    · rw [List.length_map, hp.length_eq, ← rv.length]; exact hz
    · rw [e1]; exact hp.map backV
end
end L2.K9R
end
section
set_option Elab.async false
set_option linter.all false
set_option maxRecDepth 100000
set_option maxHeartbeats 4000000
/-! dict(a list of pairs), keys that are tuples -/
namespace L2.K9R
open PySem PySem.Spec PyProof.Rows L2
def PairsT (H : Hp) : List V → List (List Key × V) → Prop := Paired fun v q => ∃ (T b : Addr), v = .ref T ∧ H T = some (.tup [.ref b, q.2]) ∧ H b = some (.tup (q.1.map kV))
def putAll (kvs : List (List Key × V)) : List (List Key × V) := kvs.foldl (fun acc q => putK acc q.1 q.2) []
def rDictT (K : PySem.W.Frag) : List V → Hp → VK → Prop := fun vs H Q => ∃ (a : Addr) (ps : List V) (kvs : List (List Key × V)), vs = [.ref a] ∧ H a = some (.lst ps) ∧ PairsT H ps kvs ∧ ps.length ≤ sizeLine ∧ ∀ p, H p = none → Q (.ref p) (upd H p (.dT (putAll kvs)))
theorem kt_all {H : Hp} : ∀ {kvs : List (List Key × V)} {qs : List (List Key × Addr × Value)} {acc : List (List Key × V)} {xs : List (List Key × Addr × Value)}, KT H kvs qs → KT H acc xs → KT H (kvs.foldl (fun acc q => putK acc q.1 q.2) acc) (storedAllH xs qs)
  | [], _, acc, xs, .nil, r => r
  | (k, y) :: kvs, _, acc, xs, .cons (b := q) h t, r => by
    obtain ⟨k', b, u⟩ := q
    obtain ⟨h1, h2, h3⟩ := h
    have h1 : k = k' := h1
    subst h1
    exact kt_all (kvs := kvs) (acc := putK acc k y) (xs := storedH xs k b u) t (KT.put r k h2 h3)
section
variable {X : Cx}
theorem pairsT_of {pins : List (Addr × Obj)} {σ : L2.St} {H : Hp} {s : Shared} (I : Inv X pins σ H s) : ∀ {ps : List V} {kvs : List (List Key × V)} {its : List Value}, Vals ps its → PairsT H ps kvs →
    ∃ (Ts : List Addr) (qs : List (List Key × Addr × Value)), KT H kvs qs ∧ Ts.length = qs.length ∧ its = Ts.map Value.ref ∧ ∀ (j : Nat) (T : Addr) (q : List Key × Addr × Value), Ts[j]? = some T → qs[j]? = some q → IsTup s.heap T #[.ref q.2.1, q.2.2]
  | _, _, _, .nil, .nil => ⟨[], [], .nil, rfl, rfl, fun j T q e => by simp at e⟩
  | _, _, _, .cons h r, .cons (b := kv) hp t => by
    obtain ⟨Ts, qs, h1, h2, h3, h4⟩ := pairsT_of I r t
    obtain ⟨T, b, e, hT, hb⟩ := hp
    subst e
    cases h
    obtain ⟨_, its2, r2, p2⟩ := (show ObjOk X.prog X.w H s.heap T (.tup [.ref b, kv.2]) from I.hok T _ hT)
    obtain ⟨u1, u2, rfl, ru1, ru2⟩ := vals2 r2
    cases ru1
    refine ⟨T :: Ts, (kv.1, b, u2) :: qs, .cons ⟨rfl, hb, ru2⟩ h1, by rw [List.length_cons, List.length_cons, h2], by rw [h3]; rfl, fun j T' q e1 e2 => ?_⟩
    cases j with
    | zero =>
      cases e1
      cases e2
      exact p2
    | succ j => exact h4 j T' q e1 e2
theorem cr_dictT (hu : X.A.units + 64 < cLine) (hc : X.calm = true) : CallR X (.type "dict") (rDictT X.K) := by
  intro pins s σ H xs us Q I r q
  obtain ⟨a, ps, kvs, ex, ha, hp, hz, q⟩ := q
  subst ex
  obtain ⟨u, eu, rx⟩ := vals1 r
  subst eu
  cases rx
  obtain ⟨its, rv, pl, _⟩ := I.list (show SqL X.K H a ps from Or.inl (Or.inl ha))
  obtain ⟨Ts, qs, hk, hl, rfl, hpt⟩ := pairsT_of I rv hp
  have hlen : ps.length = qs.length := by rw [rv.length, List.length_map, hl]
  obtain ⟨o, n, ho, hcl, hd, hdat⟩ := pl
  have hmem : ∀ {kvs : List (List Key × V)} {qs : List (List Key × Addr × Value)}, KT H kvs qs → ∀ x ∈ qs, H x.2.1 = some (.tup (x.1.map kV)) := by
    intro kvs qs r
    induction r with
    | nil => intro x hx; cases hx
    | cons h _ ih =>
      intro x hx
      rcases List.mem_cons.mp hx with e | hx
      · subst e
        obtain ⟨h1, h2, _⟩ := h
        rw [← h1]
        exact h2
      · exact ih x hx
  refine call_dict_pairsH (knd := tupleKind (mixKind X.prog X.w)) (ps := qs) (n := (qs.map fun q => (Value.ref q.2.1, q.2.2)).length) (PairArg.list a (Ts.map Value.ref).toArray (fun j => Ts.getD j 0) (qs.map fun q => (Value.ref q.2.1, q.2.2))) (I.ok.hd hc) ?hroom ⟨⟨o, n, ho, hcl, hd, hdat⟩, ?hitems⟩ ⟨?hl, ?hhave⟩ ?hstay (by rw [List.length_map, ← hlen]; exact hz) fun h' tk hd' kp => ?fin
  case hroom =>
    show X.A.in1.in1.units < cLine
    have e1 : X.A.in1.units = X.A.units + 1 := rfl
    have e2 : X.A.in1.in1.units = X.A.units + 1 + 1 := rfl
    omega
  case hitems =>
    refine ⟨by simp [hl], fun j k v e => ?_⟩
    rw [List.getElem?_map] at e
    obtain ⟨q0, hq0, e0⟩ := Option.map_eq_some_iff.mp e
    have hj : j < Ts.length := by rw [hl]; exact (List.getElem?_eq_some_iff.mp hq0).1
    have hT : Ts[j]? = some Ts[j] := List.getElem?_eq_getElem hj
    have eD : Ts.getD j 0 = Ts[j] := by simp [List.getD, hT]
    cases e0
    dsimp only
    rw [eD]
    exact ⟨by simp [hT], .inl (hpt j _ _ hT hq0)⟩
  case hl => rw [List.length_map]
  case hhave =>
    intro i key v hrel
    have hrel : (qs.map fun q => (Value.ref q.2.1, q.2.2))[i]? = some (key, v) := hrel
    rw [List.getElem?_map] at hrel
    obtain ⟨q0, hq0, e0⟩ := Option.map_eq_some_iff.mp hrel
    cases e0
    exact ⟨q0.1, q0.2.1, hq0, rfl⟩
  case hstay =>
    intro h' hk' x hx
    obtain ⟨o, its, n, h1, h2, h3, h4⟩ := key_of I.hok (hmem hk x hx)
    exact ⟨o, its, n, hk' _ _ (Nat.ne_of_lt (Heap.lt_size h1)) (fun z => nomatch z) h1, h2, h3, h4⟩
  case fin =>
    have hm : (s.heap.objs.size == sysModules) = false := beq_eq_false_iff_ne.mpr (Nat.ne_of_gt I.big)
    have hkt : KT H (putAll kvs) (storedAllH [] qs) := kt_all (acc := []) (xs := []) hk .nil
    have hn := I.hok.fresh (Nat.le_refl s.heap.objs.size)
    obtain ⟨q0, es, ep, hq, h2, h3, h4, _, h5⟩ := hd'
    have hlen2 : (putAll kvs).length ≤ sizeLine := by
      rw [Paired.length hkt]
      have := storedAllH_length qs []
      rw [List.length_nil, Nat.zero_add] at this
      omega
    exact ⟨.ref s.heap.objs.size, upd H s.heap.objs.size (.dT (putAll kvs)), I.laid (t' := tk) (fun b o e => kp b o (fun z => nomatch z) e) (Nat.le_refl _) (show ObjOk X.prog X.w _ _ _ (.dT (putAll kvs)) from ⟨hlen2, hm, storedAllH [] qs, hkt.keeps fun c ys ec => by rw [upd_ne (ne_of_none ec hn)]; exact ec, q0, es, ep, hq, h2, h3, h4, h5⟩), rfl, q _ hn⟩
end
end L2.K9R
end
section
set_option Elab.async false
set_option linter.all false
set_option maxRecDepth 100000
set_option maxHeartbeats 4000000
/-! rules that the layer lacks, part F -/
namespace L2.K9R
open PySem PySem.Spec PyProof.Rows L2
open C8 (Cal Met pe_c pe_mt pe_mt0 InsC call_isC pe_gc)
theorem hu64_of {A : Around} {k : Nat} (hr : Room k A) : A.units + 64 < cLine := hr.units
theorem hu65_of {A : Around} {k : Nat} (hr : Room k A) : A.units + 65 < cLine := by have := hr.un; omega
section
variable {X : Cx} {k j : Nat} {C : Addr} {x m : Str} {sp : Sp} {dvs : List V} {p pos apos : Pos} {e o : Expr} {es : List Expr} {ta : TE} {t : TA}
theorem pe_c0 (c : Cal X.prog X.w X.K X.mg X.base k x sp dvs) (hr : Room j X.A) (hk : k ≤ j) (hg : Gl X x) (hdb : (x == ("__debug__" : Str)) = false := by decide) :
    PE X (.Call (.Name x p) [] [] pos) (tCall sp dvs E0 tNil) := by
  obtain ⟨f, fd, ps, ds, F, hm, kp, b, d⟩ := c.ex
  exact pe_call0 F (hr.mono hk) hg hm kp b d pass0 hdb
/-- a method called by keywords alone -/
structure MetK (P : Program) (w : World) (K : PySem.W.Frag) (mg : Str → Option Value) (base : Heap) (k : Nat) (C : Addr) (m : Str) (sp : Sp) (ks : List Str) (gV : List V → List V → List V) : Prop where
  ex : ∃ (f : Addr) (fd : FuncData) (ps : List Str) (g : List Value → List Value → List Value), Cls K C ∧ Meth K C m f ∧ FnOk P w K mg base CX0 k f fd ps sp ∧ KBinds K fd ps ks g gV
theorem pe_mkw {kws : List Keyword} {tk : TA} {pl : Sem Bool} {ks : List Str} {gV : List V → List V → List V} (c : MetK X.prog X.w X.K X.mg X.base k C m sp ks gV) (hr : Room j X.A) (hk : k ≤ j) (he : PE X o ta) (hkw : PK X kws tk)
    (hall : (backToKw pos (keywordEach kws X.env)).all (·.1.isSome) = true := by rfl) (hks : (backToKw pos (keywordEach kws X.env)).filterMap (·.1) = ks := by rfl)
    (hpl : ((backTo pos (starEach [] X.env)).any (·.1) || (backToKw pos (keywordEach kws X.env)).any (·.1.isNone)) = false := by rfl)
    (ht : eval (.Call (.Attribute o m apos) [] kws pos) X.env = (do
      let ov ← eval o X.env
      standAt apos.atName
      let (f, first) ← holding [ov] (getMethod ov m pl)
      callWith pos f first (backTo pos (starEach [] X.env)) (backToKw pos (keywordEach kws X.env))) := by rfl) :
    PE X (.Call (.Attribute o m apos) [] kws pos) (tMethK C m sp gV E0 ta tk) := by
  obtain ⟨f, fd, ps, g, hc, hm, F, hb⟩ := c.ex
  exact pe_methK (pl := pl) he hc hm F (hr.mono hk) hb pass0 hkw hall hks hpl ht
/-- a class made with keywords -/
structure MakK (P : Program) (w : World) (K : PySem.W.Frag) (mg : Str → Option Value) (base : Heap) (k : Nat) (x : Str) (C : Addr) (sp : Sp) (n : Nat) (ks : List Str) (gV : List V → List V → List V) : Prop where
  ex : ∃ (f : Addr) (fd : FuncData) (ps : List Str) (g : List Value → List Value → List Value), Mk K C f ∧ FnOk P w K mg base CX0 k f fd ps sp ∧ mg x = some (.ref C) ∧ KBn K fd ps (n + 1) ks g gV
theorem pe_mkP {kws : List Keyword} {tk : TA} {n : Nat} {ks : List Str} {gV : List V → List V → List V} (c : MakK X.prog X.w X.K X.mg X.base k x C sp n ks gV) (hr : Room j X.A) (hk : k + 1 ≤ j) (hg : Gl X x) (ha : PA X (e :: es) t) (hkw : PK X kws tk)
    (hall : (backToKw pos (keywordEach kws X.env)).all (·.1.isSome) = true := by rfl) (hks : (backToKw pos (keywordEach kws X.env)).filterMap (·.1) = ks := by rfl) (hdb : (x == ("__debug__" : Str)) = false := by decide)
    (he : starEach (e :: es) X.env = (false, eval e X.env) :: starEach es X.env := by rfl) (hpl : ((backTo pos (starEach (e :: es) X.env)).any (·.1) || (backToKw pos (keywordEach kws X.env)).any (·.1.isNone)) = false := by rfl) :
    PE X (.Call (.Name x p) (e :: es) kws pos) (tMakeK C n ks.length sp gV E0 t tk) := by
  obtain ⟨f, fd, ps, g, M, F, hm, hb⟩ := c.ex
  exact pe_makeK M F (hr.mono hk) hg hm hb pass0 ha hkw hall hks hdb he hpl
end
section
variable {X : Cx} {tg : Expr}
/-- a list or a tuple, walked -/
def iSeq (K : PySem.W.Frag) (tl : TE) : TI := fun σ H R => tl σ H fun x H1 => ∃ a, x = .ref a ∧ (((∃ xs, SqL K H1 a xs) ∧ R (Itl K a) H1) ∨ ((∃ xs, SqT K H1 a xs) ∧ R (Itt K a) H1))
theorem pi_seq {l : Expr} {tl : TE} (hl : PE X l tl) : PI X tg l (iSeq X.K tl) := by
  refine ⟨fun pins s σ H R I h => ?_⟩
  refine thn (hl.run pins s σ H _ I h) fun v s1 ⟨x, H1, I1, r1, q1⟩ => ?_
  obtain ⟨a, e, ⟨⟨xs, hq⟩, q⟩ | ⟨⟨xs, hq⟩, q⟩⟩ := q1
  · subst e
    cases r1
    obtain ⟨its, rv, p, hz⟩ := I1.list hq
    refine wpAny_pyIter_list p.isList ?_
    refine ⟨s1.heap.objs.size, [s1.heap.objs.size], _, _, H1, rfl, I1.kept (t' := s1.toks) fun b o e => Heap.get?_push_of_some _ e, turn_list a _, ⟨_, Heap.get?_push_size _ rfl, rfl, rfl⟩, fun b hb => ?_, q⟩
    have e : b = s1.heap.objs.size := by simpa using hb
    subst e
    exact I1.fpOk (Nat.le_refl _) (I1.hok.fresh (Nat.le_refl _))
  · subst e
    cases r1
    obtain ⟨its, rv, p, hz⟩ := I1.tuple hq
    refine wpAny_pyIter_tuple (show s1.heap.IsTuple a its.toArray from p) ?_
    refine ⟨s1.heap.objs.size, [s1.heap.objs.size], _, _, H1, rfl, I1.kept (t' := s1.toks) fun b o e => Heap.get?_push_of_some _ e, turn_tuple a _, ⟨_, Heap.get?_push_size _ rfl, rfl, rfl⟩, fun b hb => ?_, q⟩
    have e : b = s1.heap.objs.size := by simpa using hb
    subst e
    exact I1.fpOk (Nat.le_refl _) (I1.hok.fresh (Nat.le_refl _))
end
end L2.K9R
end
section
set_option Elab.async false
set_option linter.all false
set_option maxRecDepth 100000
set_option maxHeartbeats 4000000
/-! sets of texts: made, filled, sorted; the members as a list without doubles -/
namespace L2.K9R
open PySem PySem.Spec PyProof.Rows L2
def keyS (e : Int × Value) : Str := match e.2 with | .str x _ => x | _ => Str.empty
def GoodS (w : World) (e : Int × Value) : Prop := ∃ x tk, e.2 = Value.str x tk ∧ e.1 = hashStr w x
/-- the set of texts at a, its members L in some order -/
def SetS (w : World) (h : Heap) (a : Addr) (L : List Str) : Prop :=
  ∃ o es ep t, h.get? a = some o ∧ o.ExactSet ∧ o.data = .set es ep t ∧ ((∀ e ∈ es.toList, GoodS w e) ∧ (es.toList.map keyS).Perm L ∧ L.Nodup) ∧ (es.size < scanBound ∧ t.fits es.size = true) ∧ Ris t.place.toList ∧ (w.params.followText "set-order" = true ∨ t.led = true)
theorem isS (P : Program) (w : World) (x : Str) (tk : Tok) : (PySem.strKind P w).is x (.str x tk) = true := by
  show Value.isStrOf x (.str x tk) = true
  simp [Value.isStrOf]
def addS (L : List Str) (x : Str) : List Str := if x ∈ L then L else x :: L
section
variable {P : Program} {w : World} {h h' : Heap} {a : Addr} {L : List Str}
theorem SetS.at (R : SetS w h a L) (k : ∀ o, h.get? a = some o → h'.get? a = some o) : SetS w h' a L := let ⟨o, es, ep, t, ho, r⟩ := R; ⟨o, es, ep, t, k o ho, r⟩
theorem goodS_elems {l : List (Int × Value)} (g : ∀ e ∈ l, GoodS w e) : ElemsOf (PySem.strKind P w) l := fun e he => by
  obtain ⟨x, tk, h1, h2⟩ := g e he
  exact ⟨⟨x, by rw [h1]; exact isS P w x tk, h2⟩, by rw [h1] <;> rfl⟩
theorem goodS_is {e : Int × Value} (g : GoodS w e) (x : Str) : (PySem.strKind P w).is x e.2 = true ↔ keyS e = x := by
  obtain ⟨y, tk, h1, _⟩ := g
  unfold keyS
  rw [h1]
  show Value.isStrOf x (.str y tk) = true ↔ y = x
  simp [Value.isStrOf]
theorem goodS_mem {l : List (Int × Value)} (g : ∀ e ∈ l, GoodS w e) (x : Str) : x ∈ l.map keyS ↔ ∃ e ∈ l, (PySem.strKind P w).is x e.2 = true := by
  rw [List.mem_map]
  exact ⟨fun ⟨e, he, q⟩ => ⟨e, he, (goodS_is (g e he) x).2 q⟩, fun ⟨e, he, q⟩ => ⟨e, he, (goodS_is (g e he) x).1 q⟩⟩
theorem SetS.setOf (R : SetS w h a L) : h.SetOf (PySem.strKind P w) a (fun x => decide (x ∈ L)) L.length := by
  obtain ⟨o, es, ep, t, ho, hx, hd, ⟨g, pm, nd⟩, ⟨hb, hf⟩, _⟩ := R
  refine ⟨o, es, ep, t, ho, hx, hd, goodS_elems g, fun x => ?_, hb, hf, ?_⟩
  · rw [decide_eq_true_eq, ← pm.mem_iff]
    exact goodS_mem g x
  · rw [← pm.length_eq, List.length_map, Array.length_toList]
theorem SetS.size (R : SetS w h a L) : L.length < scanBound := by
  obtain ⟨o, es, ep, t, ho, hx, hd, ⟨g, pm, nd⟩, ⟨hb, hf⟩, _⟩ := R
  rw [← pm.length_eq, List.length_map, Array.length_toList]
  exact hb
end
section
variable {P : Program} {w : World} {A : Around} {E : Value → Shared → Prop} {s : Shared} {a : Addr} {L : List Str}
theorem tailS {g : Bool → Sem Unit} (hg : ∀ (b : Bool) (s₁ : Shared) (Q' : Unit → Shared → Prop), Q' () s₁ → wpAny (model P w) A (g b) Q' E s₁) {o : Obj} {es es1 : Array (Int × Value)} {ep : Nat} {t t2 : SetTable}
    (ho : s.heap.get? a = some o) (hex : o.ExactSet) (hd : o.data = .set es ep t) (G : (∀ e ∈ es1.toList, GoodS w e) ∧ (es1.toList.map keyS).Perm L ∧ L.Nodup) (hb1 : es1.size < scanBound) (hf2 : t2.fits es1.size = true) (hr : Ris t2.place.toList)
    (hl : w.params.followText "set-order" = true ∨ t2.led = true) {wd : Bool} {R : Option Bool → Shared → Prop} (hR : ∀ h', Heap.SameBut a s.heap h' → SetS w h' a L → R (some true) { s with heap := h' }) :
    wpAny (model P w) A (do
      storeSet a es1 t2
      if (!wd && t2.tooFull) = true then do
        g (relayAll t2 es1 (SetTable.grown es1.size)).2.2
        storeSet a (relayAll t2 es1 (SetTable.grown es1.size)).1 (relayAll t2 es1 (SetTable.grown es1.size)).2.1
        pure (some true)
      else pure (some true)) R E s := by
  refine wpAny_bind (wpAny_storeSet_of ho hd ?_ (fits_of_scanBound hb1))
  have o1 := store_at (es' := es1) (t' := t2) ho hd
  have sb1 := Heap.SameBut.update s.heap a (Obj.putSet es1 t2)
  split
  · have p := relayAll_perm t2 es1 (SetTable.grown es1.size)
    have f := relayAll_fits t2 es1 (SetTable.grown es1.size)
    have r := relayAll_ris t2 es1 (SetTable.grown es1.size)
    have l := relayAll_led t2 es1 (SetTable.grown es1.size)
    generalize relayAll t2 es1 (SetTable.grown es1.size) = Z at p f r l ⊢
    obtain ⟨es2, t3, gv⟩ := Z
    dsimp only at p f r l ⊢
    have z : es2.size = es1.size := by rw [← Array.length_toList, p.length_eq, Array.length_toList]
    refine wpAny_bind (hg _ _ _ ?_)
    refine wpAny_bind (wpAny_storeSet_of o1 rfl ?_ (fits_of_scanBound (by rw [z]; exact hb1)))
    have o2 := store_at (es' := es2) (t' := t3) o1 rfl
    exact wpAny_pure (hR _ (sb1.trans (Heap.SameBut.update _ a _)) ⟨_, es2, _, t3, o2, hex, rfl, ⟨fun e he => G.1 e (p.mem_iff.mp he), (p.map keyS).trans G.2.1, G.2.2⟩, ⟨by rw [z]; exact hb1, by first | exact f | (rw [z]; exact f)⟩, r, hl.imp id fun q => by rw [l]; exact q⟩)
  · exact wpAny_pure (hR _ sb1 ⟨_, es1, _, t2, o1, hex, rfl, G, ⟨hb1, hf2⟩, hr, hl⟩)
theorem addHashS {x : Str} {tk : Tok} {Q : Bool → Shared → Prop} (R : SetS w s.heap a L) (room : L.length + 1 < scanBound)
    (hQ : ∀ h', Heap.SameBut a s.heap h' → SetS w h' a (addS L x) → Q (!decide (x ∈ L)) { s with heap := h' }) : wpAny (model P w) A (setAddHashed a (.str x tk) ((PySem.strKind P w).hash x)) Q E s := by
  obtain ⟨o, es, ep, t, ho, hex, hd, ⟨g, pl, nd⟩, ⟨hb, hf⟩, hr, hl⟩ := R
  have hkey : (PySem.strKind P w).is x (.str x tk) = true := isS P w x tk
  have hsc : (Value.str x tk).scannable = true := rfl
  have hel : ElemsOf (PySem.strKind P w) es.toList := goodS_elems g
  unfold setAddHashed setAddHashedIn
  refine wpAny_holding (wpAny_bind (wpAny_setState_of ho hd hf ?_))
  dsimp only
  rw [byScan_of hsc hb hel]
  simp only [↓reduceIte]
  unfold setAddByScan
  refine wpAny_bind (wpAny_bind (wpAny_rule (wpAny_bind (wpAny_setScan_of hkey ho hd hf hel ?_))))
  cases hfi : List.findIdx? (fun e => (PySem.strKind P w).is x e.2) es.toList with
  | some j =>
    dsimp only
    obtain ⟨hj, pj, _⟩ := List.findIdx?_eq_some_iff_getElem.mp hfi
    have hx : x ∈ L := pl.mem_iff.mp ((goodS_mem (P := P) g x).2 ⟨es.toList[j], List.getElem_mem hj, pj⟩)
    have q := hQ s.heap (Heap.SameBut.refl a s.heap) (by rw [addS, if_pos hx]; exact ⟨o, es, ep, t, ho, hex, hd, ⟨g, pl, nd⟩, ⟨hb, hf⟩, hr, hl⟩)
    rw [decide_eq_true hx] at q
    exact wpAny_pure (wpAny_pure q)
  | none =>
    dsimp only
    have hnx : x ∉ L := fun z => by
      obtain ⟨e, he, q⟩ := (goodS_mem (P := P) g x).1 (pl.mem_iff.mpr z)
      have c := List.findIdx?_eq_none_iff.mp hfi e he
      rw [q] at c
      cases c
    have hgw : ∀ (b : Bool) {s₁ : Shared} {Q' : Unit → Shared → Prop}, Q' () s₁ → wpAny (model P w) A (match b with | true => rule "set.scan.the-table-gave-way" | false => pure ()) Q' E s₁ := fun b s₁ Q' q => by
      cases b
      · exact wpAny_pure q
      · exact wpAny_rule q
    have pm := layNew_perm t es ((PySem.strKind P w).hash x) (.str x tk)
    have f1 := layNew_fits t es ((PySem.strKind P w).hash x) (.str x tk)
    have r1 := layNew_ris t es ((PySem.strKind P w).hash x) (.str x tk) hr
    have l1 := layNew_led t es ((PySem.strKind P w).hash x) (.str x tk)
    generalize layNew t es ((PySem.strKind P w).hash x) (.str x tk) = Z at pm f1 r1 l1 ⊢
    obtain ⟨es1, t1, wd, gv⟩ := Z
    dsimp only at pm f1 r1 l1 ⊢
    rw [Array.toList_push] at pm
    have pc : es1.toList.Perm (((PySem.strKind P w).hash x, Value.str x tk) :: es.toList) := pm.trans (List.perm_append_singleton _ _)
    have G : (∀ e ∈ es1.toList, GoodS w e) ∧ (es1.toList.map keyS).Perm (x :: L) ∧ (x :: L).Nodup := by
      refine ⟨fun e he => ?_, (pc.map keyS).trans (pl.cons x), List.nodup_cons.mpr ⟨hnx, nd⟩⟩
      rcases List.mem_cons.mp (pc.mem_iff.mp he) with z | z
      · rw [z]
        exact ⟨x, tk, rfl, rfl⟩
      · exact g e z
    have z1 : es1.size < scanBound := by
      have q := G.2.1.length_eq
      rw [List.length_map, Array.length_toList, List.length_cons] at q
      omega
    have hled : w.params.followText "set-order" = true ∨ t1.led = true := hl.imp id fun z => by rw [l1]; exact z
    have fin : ∀ h', Heap.SameBut a s.heap h' → SetS w h' a (x :: L) → Q true { s with heap := h' } := fun h' sb r => by
      have q := hQ h' sb (by rw [addS, if_neg hnx]; exact r)
      rw [decide_eq_false hnx] at q
      exact q
    refine wpAny_bind (hgw _ ?_)
    have hgu : ∀ (b : Bool) (s₁ : Shared) (Q' : Unit → Shared → Prop), Q' () s₁ → wpAny (model P w) A (match b with | true => rule "set.scan.the-table-gave-way" | false => pure ()) Q' E s₁ := fun b s₁ Q' q => hgw b q
    split
    · refine wpAny_bind ?_
      rw [hashByValue_scannable 8 hsc]
      refine wpAny_pure ?_
      refine tailS (L := x :: L) ?_ ho hex hd G z1 ?_ ?_ ?_ ?_
      · intro b s₁ Q' q; cases b <;> first | exact wpAny_pure q | exact wpAny_rule q
      · first | (split <;> first | exact f1 | exact SetTable.fits_plain_off f1) | exact f1
      · first | (split <;> exact r1) | exact r1
      · first | (split <;> exact hled) | exact hled
      · intro h' sb r; dsimp only; exact wpAny_pure (fin h' sb r)
    · refine wpAny_bind (wpAny_pure ?_)
      simp only [↓reduceIte]
      refine tailS (L := x :: L) ?_ ho hex hd G z1 f1 r1 hled ?_
      · intro b s₁ Q' q; cases b <;> first | exact wpAny_pure q | exact wpAny_rule q
      · intro h' sb r; dsimp only; exact wpAny_pure (fin h' sb r)
/-- found.add(x) as the comprehension does it -/
theorem addCallS {x : Str} {tk : Tok} {Q : Value → Shared → Prop} (R : SetS w s.heap a L) (room : L.length + 1 < scanBound)
    (hQ : ∀ h' t', Heap.SameBut a s.heap h' → SetS w h' a (addS L x) → Q .none { s with heap := h', toks := t' }) : wpAny (model P w) A (call (.builtin "set.add") [.ref a, .str x tk]) Q E s := by
  have hS : s.heap.SetOf (PySem.strKind P w) a (fun x => decide (x ∈ L)) L.length := R.setOf
  refine wpAny_call_entry F.slot_set_add hS.typeIs F.entry_set_add ?_ (F.args_set_add_2 _ _)
  unfold Builtin.«set.add» Builtin.Frozenset.oneOther
  simp only [List.isEmpty_nil, bind_assoc]
  unfold Builtin.Frozenset.addrOf setAdd
  refine wpAny_bind (wpAny_pure ?_)
  try dsimp only
  refine wpAny_bind (wpAny_pure ?_)
  try dsimp only
  refine wpAny_bind (wpAny_holding (wpAny_bind ((PySem.strKind P w).pyHash (k := x) (isS P w x tk) ?_)))
  refine addHashS (s := { s with toks := _ }) R room fun h' sb r => ?_
  show wpAny _ _ (ret Value.none) _ _ _
  exact wpAny_pure ⟨_, rfl, hQ h' _ sb r⟩
end
end L2.K9R
end
section
set_option Elab.async false
set_option linter.all false
set_option maxRecDepth 100000
set_option maxHeartbeats 4000000
namespace L2.K9R
open PySem PySem.Spec PyProof.Rows L2
/-- the object of a new set -/
abbrev noneSet (w : World) : Obj := { cls := .type "set", dict := none, data := .set #[] 0 (.fresh 0 0 (!w.params.followText "set-order")) }
theorem freshS {w : World} {h : Heap} {a : Addr} (ho : h.get? a = some (noneSet w)) : SetS w h a [] :=
  ⟨_, #[], 0, _, ho, ⟨rfl, rfl, rfl⟩, rfl, ⟨fun e he => by simp at he, by simp, List.nodup_nil⟩, ⟨by decide, by rfl⟩, List.Pairwise.nil, by
    show _ ∨ (!w.params.followText "set-order") = true
    cases w.params.followText "set-order"
    · exact .inr rfl
    · exact .inl rfl⟩
def addAll (xs : List Str) : List Str := xs.foldl addS []
theorem addAll_snoc (xs : List Str) (x : Str) : addAll (xs ++ [x]) = addS (addAll xs) x := by simp [addAll, List.foldl_append]
theorem mem_addS {L : List Str} {x y : Str} : y ∈ addS L x ↔ y = x ∨ y ∈ L := by
  unfold addS
  by_cases h : x ∈ L
  · rw [if_pos h]
    constructor
    · exact .inr
    · rintro (rfl | q)
      · exact h
      · exact q
  · rw [if_neg h, List.mem_cons]
theorem mem_foldS (xs : List Str) : ∀ (L : List Str) (y : Str), y ∈ xs.foldl addS L ↔ y ∈ xs ∨ y ∈ L := by
  induction xs with
  | nil => intro L y; simp
  | cons x xs ih =>
    intro L y
    rw [List.foldl_cons, ih, mem_addS, List.mem_cons]
    constructor
    · rintro (h | h | h)
      · exact .inl (.inr h)
      · exact .inl (.inl h)
      · exact .inr h
    · rintro ((h | h) | h)
      · exact .inr (.inl h)
      · exact .inl h
      · exact .inr (.inr h)
theorem mem_addAll {xs : List Str} {y : Str} : y ∈ addAll xs ↔ y ∈ xs := by
  unfold addAll
  rw [mem_foldS]
  simp
theorem len_addS (L : List Str) (x : Str) : (addS L x).length ≤ L.length + 1 := by
  unfold addS
  split
  · omega
  · simp
theorem len_foldS (xs : List Str) : ∀ L : List Str, (xs.foldl addS L).length ≤ L.length + xs.length := by
  induction xs with
  | nil => intro L; simp
  | cons x xs ih =>
    intro L
    rw [List.foldl_cons, List.length_cons]
    have h1 := ih (addS L x)
    have h2 := len_addS L x
    omega
theorem len_addAll (xs : List Str) : (addAll xs).length ≤ xs.length := by
  have h := len_foldS xs []
  simpa [addAll] using h
section
variable {P : Program} {w : World} {A : Around} {E : Value → Shared → Prop} {s : Shared}
theorem updateS {I : Addr} {fp wr : List Addr} {G : Array GenState → Array GenState → Prop} {n : Nat} {Pv : Nat → Value → Prop} {St : Nat → Shared → Prop} {R : Result → Shared → Prop}
    (W : WalksS P w A.in1 I fp wr G n Pv St) (S : Addr) (hSf : S ∉ fp) (xs : List Str) (hn : n = xs.length) (hb : xs.length + 1 < scanBound) (hval : ∀ i v, Pv i v → ∃ x t, xs[i]? = some x ∧ v = .str x t) :
    ∀ (k i : Nat) (s : Shared), n - i = k → i ≤ n → St i s → SetS w s.heap S (addAll (xs.take i)) →
      (∀ s', Moved (S :: wr) G s s' → SetS w s'.heap S (addAll xs) → R (.ok (.ret .none)) s') → codeAny (model P w) A (.builtin "set.update.loop" ⟨[.ref S, .ref I], []⟩) R s := by
  have hSw : S ∉ wr := fun h => hSf (W.sub _ h)
  have hsub : ∀ b ∈ wr, b ∈ S :: wr := fun b hb => List.mem_cons_of_mem _ hb
  intro k
  induction k with
  | zero =>
    intro i s hk' hi hst hS hR
    have hin : i = n := by omega
    subst hin
    refine codeAny_builtin F.entry_set_update_loop ?_
    rw [Around.under_plainId F.plain_set_update_loop _]
    show wpAny _ A.in1 (pyNext (.ref I) >>= _) _ _ s
    refine wpAny_bind (W.done s _ _ hst fun s' hm => ?_)
    show wpAny _ A.in1 (ret Value.none) _ _ s'
    rw [List.take_of_length_le (by omega)] at hS
    exact wpAny_pure (hR s' (hm.mono hsub) (hS.at fun o e => hm.heap S o hSw e))
  | succ k ih =>
    intro i s hk' hi hst hS hR
    have hlt : i < n := by omega
    refine codeAny_builtin F.entry_set_update_loop ?_
    rw [Around.under_plainId F.plain_set_update_loop _]
    show wpAny _ A.in1 (pyNext (.ref I) >>= _) _ _ s
    refine wpAny_bind (W.item i s _ _ hlt hst fun v s' hP hst' hm => ?_)
    obtain ⟨x, t, hx, rfl⟩ := hval i v hP
    have hS' : SetS w s'.heap S (addAll (xs.take i)) := hS.at fun o e => hm.heap S o hSw e
    have hroom : (addAll (xs.take i)).length + 1 < scanBound := by
      have h1 := len_addAll (xs.take i)
      have h2 := List.length_take_le i xs
      have h3 := List.length_take_le' i xs
      omega
    show wpAny _ A.in1 (holding [Value.str x t] (setAdd S (.str x t)) >>= _) _ _ s'
    refine wpAny_bind (wpAny_holding ?_)
    unfold setAdd
    refine wpAny_holding (wpAny_bind ((PySem.strKind P w).pyHash (k := x) (isS P w x t) ?_))
    refine addHashS (s := { s' with toks := _ }) hS' hroom fun h' hsb hS2 => ?_
    have hS3 : SetS w h' S (addAll (xs.take (i + 1))) := by
      rw [List.take_add_one, hx]
      show SetS w h' S (addAll (xs.take i ++ [x]))
      rw [addAll_snoc]
      exact hS2
    refine wpAny_pure ⟨plainId_quiet F.plain_set_update_loop _, ih (i + 1) _ (by omega) hlt (W.frame _ s' _ _ hst' (Nat.le_succ _) fun b hb o e => ?_) hS3 fun s'' hm'' hS'' => ?_⟩
    · rw [hsb.2 b (fun h : b = S => hSf (by rw [← h]; exact hb))]
      exact e
    · refine hR s'' (Moved.trans W.gtrans ((hm.mono hsub).then_heap (Nat.le_succ _) fun b o hb e => ?_) hm'') hS''
      rw [hsb.2 b (fun h : b = S => hb (by rw [h]; exact List.mem_cons_self))]
      exact e
theorem callSetS {l : Addr} {items : Array Value} (xs : List Str) {Q : Value → Shared → Prop} (hh : A.handled = none) (hl : s.heap.IsList l items) (hit : StrsAre items.toList xs) (hb : xs.length + 1 < scanBound)
    (h : ∀ (h' : Heap) (tk : Nat), SetS w h' s.heap.objs.size (addAll xs) → (∀ b o, s.heap.get? b = some o → h'.get? b = some o) → Q (.ref s.heap.objs.size) { s with heap := h', toks := tk }) :
    wpAny (model P w) A (call (.type "set") [.ref l]) Q E s := by
  have hisz : items.size = xs.length := by
    have q := hit.length
    rw [Array.length_toList] at q
    exact q
  obtain ⟨c, tl, hmro⟩ := F.called_set.mro
  have hmade := F.called_set.made
  have hsub := F.called_set.sub
  refine wpAny_call (codeAny_of_tree ?_)
  show wpAny _ _ (callAny (.type "set") _) _ _ _
  refine wpAny_pure ⟨Code.quiet_builtin _ (by decide +kernel), codeAny_builtin F.entry_type_call ?_⟩
  rw [Around.under_plain (weight_type_call_type "set" [.ref l] []) rfl]
  have h1 := F.called_set.notType
  have h2 := F.called_set.canCreate
  have hct := F.typeCall_set_1 (.ref l)
  repeat (any_goals (first | assumption | wp_step))
  refine codeAny_mono (code_set_led1 (.ref l) (E := E) (Q₁ := fun obj s₁ => obj = .ref s.heap.objs.size ∧ s₁ = { s with heap := s.heap.push (noneSet w) }) ⟨rfl, rfl⟩) fun r s₁ hr => ?_
  cases r with
  | error e => exact hr
  | ok fl =>
    cases fl with
    | ret obj =>
      obtain ⟨rfl, rfl⟩ := hr
      have hS : (s.heap.push (noneSet w)).get? s.heap.objs.size = some (noneSet w) := Heap.get?_push_size _ rfl
      have hT : Shared.TypeIs { s with heap := s.heap.push (noneSet w) } (.ref s.heap.objs.size) "set" := ⟨_, hS, rfl⟩
      have hli := F.called_set.init.lookup
      have hbi := F.called_set.init.bind (.ref s.heap.objs.size)
      repeat (any_goals (first | assumption | wp_step))
      refine codeAny_mono (codeAny_call_builtin (R := wants (fun r s₂ => r = .none ∧ ∃ h' tk, s₂ = { s with heap := h', toks := tk } ∧ SetS w h' s.heap.objs.size (addAll xs) ∧ (∀ b o, s.heap.get? b = some o → h'.get? b = some o)) E)
        F.called_set.init.plain F.entry_set_init (check_set_init_1 hT ?_)) fun r₂ s₂ hr₂ => ?_
      · obtain ⟨ol, hol, hcl, nl, hdl⟩ := hl
        obtain ⟨ocls, odict, odata, oslots⟩ := ol
        simp only at hcl hdl
        subst hcl; subst hdl
        have hol' : (s.heap.push (noneSet w)).get? l = some { cls := .type "list", dict := odict, data := .seq items nl, slots := oslots } := Heap.get?_push_of_some _ hol
        have hsls := F.sub_list_set
        have hslf := F.sub_list_frozenset
        have hne : (Value.type "list" == Value.type "dict") = false := by decide
        have hl1 : (s.heap.push (noneSet w)).IsList l items := ⟨_, hol', rfl, nl, rfl⟩
        unfold Builtin.«set.__init__» noKeywords Builtin.Frozenset.updateFrom
        generalize hPI : pyIter = PI
        wp_walk
        subst hPI
        refine wpAny_pyIter_list hl1 ?_
        refine wpAny_bind (wpAny_runValue ?_)
        have hlS : l < s.heap.objs.size := Heap.lt_size hol
        have hh3 : A.in1.in1.in1.handled = none := by simp [hh]
        have hz1 : (s.heap.push (noneSet w)).objs.size = s.heap.objs.size + 1 := Heap.size_push ..
        have hneI : l ≠ (s.heap.push (noneSet w)).objs.size := by rw [hz1]; exact Nat.ne_of_lt (Nat.lt_succ_of_lt hlS)
        have hSf : s.heap.objs.size ∉ [(s.heap.push (noneSet w)).objs.size, l] := by
          rw [hz1]
          simp only [List.mem_cons, List.not_mem_nil, or_false, not_or]
          exact ⟨Nat.ne_of_lt (Nat.lt_succ_self _), Nat.ne_of_gt hlS⟩
        have hval : ∀ (i : Nat) (v : Value), items[i]? = some v → ∃ x t, xs[i]? = some x ∧ v = .str x t := fun i v hv => by
          have q : items.toList[i]? = some v := by rw [Array.getElem?_toList]; exact hv
          have hx : ∀ {vs : List Value} {ss : List Str}, StrsAre vs ss → ∀ (i : Nat) v, vs[i]? = some v → ∃ x t, ss[i]? = some x ∧ v = .str x t := by
            intro vs ss hS
            induction hS with
            | nil => intro i v h; simp at h
            | cons x t _ ih =>
              intro i v h
              cases i with
              | zero => exact ⟨x, t, rfl, (Option.some.inj (by simpa using h)).symm⟩
              | succ i => exact ih i v (by simpa using h)
          exact hx hit i v q
        refine updateS ((Walks.list hh3 _ l hneI items).toS) s.heap.objs.size hSf xs hisz hb hval (items.size - 0) 0 _ (by omega) (Nat.zero_le _)
          ⟨⟨_, Heap.get?_push_size _ rfl, rfl, rfl⟩, (hl1.push _)⟩ (freshS (Heap.get?_push_of_some _ hS)) ?hR
        case hR =>
          intro s' hm hS'
          obtain ⟨h', g2, d', tk', os'⟩ := s'
          have eg : g2 = s.gens := hm.gens
          have ed : d' = s.drawn := hm.drawn
          have eo : os' = s.os := hm.os
          subst eg; subst ed; subst eo
          show wpAny _ _ _ _ _ _
          refine wpAny_pure ?_
          show wpAny _ _ (ret Value.none) _ _ _
          refine wpAny_pure ⟨rfl, h', tk', rfl, hS', fun b o e => ?_⟩
          have b0 : b < s.heap.objs.size := Heap.lt_size e
          refine hm.heap b o (fun z => ?_) (Heap.get?_push_of_some _ (Heap.get?_push_of_some _ e))
          simp only [List.mem_cons, List.not_mem_nil, or_false] at z
          rcases z with z | z
          · exact Nat.ne_of_lt b0 z
          · rw [z, hz1] at b0
            exact absurd b0 (Nat.not_lt.mpr (Nat.le_succ _))
      · cases r₂ with
        | error e => exact hr₂
        | ok fl₂ =>
          cases fl₂ with
          | ret r =>
            obtain ⟨rfl, h', tk, rfl, hS', hk'⟩ := hr₂
            repeat (any_goals (first | assumption | wp_step))
            exact h _ _ hS' hk'
          | _ => exact hr₂.elim
    | _ => exact hr.elim
/-- sorted(found) -/
theorem sortedSetS {a : Addr} {L : List Str} {Q : Value → Shared → Prop} (R : SetS w s.heap a L) (hh : A.handled = none)
    (hQ : ∀ s' p (out : Array Value) (c : Nat) (ys : List Str), (∀ b o, s.heap.get? b = some o → s'.heap.get? b = some o) → s'.gens = s.gens → s'.os = s.os → s.heap.objs.size ≤ p →
      s'.heap.get? p = some (seqObj "list" out c) → StrsAre out.toList ys → ys.Perm L → sortedS ys = true → Q (.ref p) s') : wpAny (model P w) A (call (.builtin "sorted") [.ref a]) Q E s := by
  have hz63 := R.size
  obtain ⟨o, es, ep, t, ho, hex, hd, ⟨g, pm0, nd⟩, ⟨hb, hf⟩, hr, hl⟩ := R
  refine Calls.call_function_entry kind_sorted plain_sorted entry_sorted (args_sorted1 _) ?_
  unfold Builtin.«sorted»
  refine wpAny_bind (m := checkCount "sorted" 1 1 _) (wpAny_pure ?_)
  refine wpAny_bind (collect_set (A := A.in1) hh ⟨o, ho, hex.1, hd⟩ hf hb hr hl fun s1 vs k1 hz g1 o1 pm => ?_)
  have hvl : vs.length ≤ sizeLine := by rw [pm.length_eq, List.length_map, Array.length_toList]; exact fits_of_scanBound hb
  have hI : StrsAre vs (vs.map strOf) := strsAre_map vs fun v hv => by
    obtain ⟨e, he, q⟩ := List.mem_map.mp (pm.mem_iff.mp hv)
    obtain ⟨x, tk, h1, _⟩ := g e he
    exact ⟨x, tk, by rw [← q]; exact h1⟩
  have pk : (vs.map strOf).Perm L := by
    have q := pm.map strOf
    rw [List.map_map] at q
    refine (q.trans ?_).trans pm0
    refine List.Perm.of_eq (List.map_congr_left fun e he => ?_)
    obtain ⟨x, tk, h1, _⟩ := g e he
    show strOf e.2 = keyS e
    rw [keyS, h1] <;> rfl
  refine wpAny_bind (wpAny_newList ?_ hvl)
  have hoL : (s1.heap.push (seqObj "list" vs.toArray 0)).get? s1.heap.objs.size = some (seqObj "list" vs.toArray 0) := Heap.get?_push_size _ rfl
  refine wpAny_bind (wpAny_holding (wpAny_call_entry slot_list_sort ⟨_, hoL, rfl⟩ entry_list_sort
    (list_sort_treeKAny strKind_oneLt hoL hI.keysOf (fun v₁ v₂ rest e => keyKind_strs (by rw [← e]; exact hI)) hvl fun st' a1 a2 => ⟨_, rfl, ?_⟩) (args_list_sort _)))
  obtain ⟨ys, b1, b2, b3⟩ := sorted_out_str hI a1 a2
  obtain ⟨c, hc⟩ := sortedHeap_at (vs := vs) (out := (arrOf st').map (·.2)) hoL
  refine wpAny_pure ⟨_, rfl, hQ _ s1.heap.objs.size _ c ys (fun b u e => ?_) g1 o1 hz hc b1 (b2.trans pk) b3⟩
  have q := k1 b u e
  have hlt := Heap.lt_size q
  show (sortedHeap (s1.heap.push (seqObj "list" vs.toArray 0)) s1.heap.objs.size vs _).get? b = some u
  rw [sortedHeap_old (Nat.ne_of_lt hlt) (by rw [size_push']; exact Nat.lt_succ_of_lt hlt)]
  exact Heap.get?_push_of_some _ q
end
end L2.K9R
end
section
set_option Elab.async false
set_option linter.all false
set_option maxRecDepth 100000
set_option maxHeartbeats 4000000
namespace L2.K9R
open PySem PySem.Spec PyProof.Rows L2
/-! sum(lists, []) -/
def catN (cs : Nat → Array Value) : Nat → Array Value
  | 0 => #[]
  | j + 1 => catN cs j ++ cs j
theorem catN_len (cs : Nat → Array Value) {i j : Nat} (h : i ≤ j) : (catN cs i).size ≤ (catN cs j).size := by
  induction j with
  | zero => rw [Nat.le_zero.mp h]; exact Nat.le_refl _
  | succ j ih =>
    rcases Nat.lt_or_ge i (j + 1) with q | q
    · have z := ih (Nat.lt_succ_iff.mp q)
      show _ ≤ (catN cs j ++ cs j).size
      rw [Array.size_append]
      omega
    · rw [Nat.le_antisymm h q]; exact Nat.le_refl _
section
variable {prog : Program} {w : World} {A : Around} {R : Result → Shared → Prop} {I l : Addr} {items : Array Value}
abbrev lstO (xs : Array Value) (c : Nat) : Obj := { cls := .type "list", dict := none, data := .seq xs c, slots := #[] }
theorem sumL_loop (hh : A.handled = none) (hlI : l ≠ I) (as : Nat → Addr) (cs : Nat → Array Value) (hval : ∀ (i : Nat) (v : Value), items[i]? = some v → v = .ref (as i)) (S : Addr) (hSI : S ≠ I) (hSl : S ≠ l) (haw : ∀ j, j < items.size → as j ≠ I ∧ as j ≠ S) (hz : (catN cs items.size).size ≤ sizeLine) {g : Heap} (gI : g.get? I = none) (gS : g.get? S = none) :
    ∀ (k i : Nat) (s : Shared) (T : Addr) (c d : Nat) (st : Int), items.size - i = k → i ≤ items.size → (s.heap.IsListIter I l i ∧ s.heap.IsList l items) → s.heap.get? S = some (lstO #[.ref T] c) →
    (T ≠ S ∧ T ≠ I ∧ s.heap.get? T = some (lstO (catN cs i) d)) → (∀ j, j < items.size → ∃ c, s.heap.get? (as j) = some (lstO (cs j) c)) → (∀ b o, g.get? b = some o → s.heap.get? b = some o) →
    (∀ h' tk T' d', (∀ b o, b ≠ I → b ≠ S → s.heap.get? b = some o → h'.get? b = some o) → h'.get? T' = some (lstO (catN cs items.size) d') → (i < items.size → g.get? T' = none) → (i = items.size → T' = T) → R (.ok (.ret (.ref T'))) { s with heap := h', toks := tk }) →
    codeAny (model prog w) A (.builtin "sum.loop" ⟨[.ref I, .ref S, rawInt st, rawInt 0], []⟩) R s := by
  have W := Walks.list (prog := prog) (w := w) (A := A.in1) hh I l hlI items
  intro k
  induction k with
  | zero =>
    intro i s T c d st hk hi hst hS hT has hg hR
    have hin : i = items.size := by omega
    subst hin
    refine codeAny_builtin F.entry_sum_loop ?_
    rw [Around.under_plainId F.plain_sum_loop _]
    show wpAny _ A.in1 (seqItems? (.ref S) >>= _) _ _ s
    refine wpAny_bind (wpAny_seqItems hS rfl ?_)
    show wpAny _ A.in1 (tryCatch (pyNext (.ref I)) _ >>= _) _ _ s
    refine wpAny_bind (wpAny_tryCatch (W.done s _ _ hst fun h' tk hk' => ?_))
    exact wpAny_pure (hR h' tk T d (fun b o hbw _ e => hk' b o (by simpa using hbw) e) (hk' T _ (by simpa using hT.2.1) hT.2.2) (fun z => absurd z (Nat.lt_irrefl _)) fun _ => rfl)
  | succ k ih =>
    intro i s T c d st hk hi hst hS hT has hg hR
    have hlt : i < items.size := by omega
    refine codeAny_builtin F.entry_sum_loop ?_
    rw [Around.under_plainId F.plain_sum_loop _]
    show wpAny _ A.in1 (seqItems? (.ref S) >>= _) _ _ s
    refine wpAny_bind (wpAny_seqItems hS rfl ?_)
    show wpAny _ A.in1 (tryCatch (pyNext (.ref I)) _ >>= _) _ _ s
    refine wpAny_bind (wpAny_tryCatch (W.item i s _ _ hlt hst fun v h' tk hP hst' hk' => ?_))
    obtain rfl := hval i v hP
    have hkI : ∀ b o, b ≠ I → s.heap.get? b = some o → h'.get? b = some o := fun b o hb e => hk' b o (by simpa using hb) e
    have hS' := hkI S _ hSI hS
    have hT' := hkI T _ hT.2.1 hT.2.2
    obtain ⟨ca, ha⟩ := has i hlt
    have ha' := hkI _ _ (haw i hlt).1 ha
    have zz : (catN cs i).size + (cs i).size ≤ sizeLine := by
      have q := catN_len cs (show i + 1 ≤ items.size from hlt)
      have e : (catN cs (i + 1)).size = (catN cs i).size + (cs i).size := Array.size_append ..
      omega
    show wpAny _ A.in1 ((holding [Value.ref (as i)] (binaryOp .Add (.ref T) (.ref (as i)))).attempt >>= _) _ _ _
    refine wpAny_bind (wpAny_attempt (wpAny_holding (PySem.P.add_list hT' ha' ?_ zz)))
    show wpAny _ A.in1 (updateSeq S (fun _ => #[.ref h'.objs.size]) >>= _) _ _ _
    have hS1 : (h'.push { cls := .type "list", data := .seq (catN cs i ++ cs i) }).get? S = some (lstO #[.ref T] c) := Heap.get?_push_of_some _ hS'
    have oI : I < h'.objs.size := by
      obtain ⟨o, ho, _⟩ := hst'.1
      exact Heap.lt_size ho
    have hg' : ∀ b o, g.get? b = some o → h'.get? b = some o := fun b o e => hkI b o (fun z => by rw [z, gI] at e; cases e) (hg b o e)
    have hNT : g.get? h'.objs.size = none := by
      cases e : g.get? h'.objs.size with
      | none => rfl
      | some o => exact absurd (Heap.lt_size (hg' _ _ e)) (Nat.lt_irrefl _)
    have hNS : h'.objs.size ≠ S := Nat.ne_of_gt (Heap.lt_size hS')
    refine wpAny_bind (wpAny_updateSeq hS1 rfl ?_)
    have hS2 := Heap.get?_update_self (Obj.mapSeq fun _ => #[Value.ref h'.objs.size]) hS1 rfl
    refine wpAny_bind (wpAny_letGo ?_)
    refine wpAny_bind (wpAny_updateSeq hS2 rfl ?_)
    have hS3 := Heap.get?_update_self (Obj.mapSeq fun _ => #[Value.ref h'.objs.size]) hS2 rfl
    generalize hh2 : ((h'.push { cls := .type "list", data := .seq (catN cs i ++ cs i) }).update S (Obj.mapSeq fun _ => #[Value.ref h'.objs.size])).update S (Obj.mapSeq fun _ => #[Value.ref h'.objs.size]) = h2 at hS3 ⊢
    have kp2 : ∀ b o, b ≠ S → (h'.push { cls := .type "list", data := .seq (catN cs i ++ cs i) }).get? b = some o → h2.get? b = some o := fun b o hbS e => by
      rw [← hh2]
      exact (Heap.get?_update_other _ _ (Ne.symm hbS)).trans ((Heap.get?_update_other _ _ (Ne.symm hbS)).trans e)
    have kp : ∀ b o, b ≠ S → h'.get? b = some o → h2.get? b = some o := fun b o hbS e => kp2 b o hbS (Heap.get?_push_of_some _ e)
    refine wpAny_pure ⟨plainId_quiet F.plain_sum_loop _, ih (i + 1) _ h'.objs.size _ 0 2 (by omega) hlt (W.frame _ _ _ hst' fun b hb o e => kp b o ?_ e) hS3 ⟨hNS, Nat.ne_of_gt oI, kp2 _ _ hNS (Heap.get?_push_size _ rfl)⟩
      (fun j hj => ?_) (fun b o e => kp b o (fun z => by rw [z, gS] at e; cases e) (hg' b o e)) fun h'' tk'' T'' d'' hk'' hT'' hn'' he'' => ?_⟩
    · rcases List.mem_cons.mp hb with z | z
      · rw [z]; exact hSI.symm
      · rw [List.mem_singleton.mp z]; exact hSl.symm
    · obtain ⟨cj, hj'⟩ := has j hj
      exact ⟨cj, kp _ _ (haw j hj).2 (hkI _ _ (haw j hj).1 hj')⟩
    · refine hR h'' tk'' T'' d'' (fun b o hbI hbS e => hk'' b o hbI hbS (kp b o hbS (hkI b o hbI e))) hT'' (fun _ => ?_) fun z => absurd z (Nat.ne_of_lt hlt)
      rcases Nat.lt_or_ge (i + 1) items.size with q | q
      · exact hn'' q
      · rw [he'' (Nat.le_antisymm hlt q)]
        exact hNT
end
section
variable {prog : Program} {w : World} {A : Around} {E : Value → Shared → Prop} {s : Shared}
theorem sub_list_str : isSubtype (.type "list") (.type "str") = pure false := by rw [isSubtype_type]; kernel_rfl
theorem sub_list_bytes : isSubtype (.type "list") (.type "bytes") = pure false := by rw [isSubtype_type]; kernel_rfl
theorem sub_list_bytearray : isSubtype (.type "list") (.type "bytearray") = pure false := by rw [isSubtype_type]; kernel_rfl
theorem args_sum2 (a b : Value) : argsOk "sum" ⟨[a, b], []⟩ := by unfold argsOk; kernel_rfl
theorem sumL_call {l T : Addr} {items : Array Value} {nl c0 : Nat} {Q : Value → Shared → Prop} (hh : A.handled = none) (hl : s.heap.get? l = some (lstO items nl)) (as : Nat → Addr) (cs : Nat → Array Value) (hval : ∀ (i : Nat) (v : Value), items[i]? = some v → v = .ref (as i))
    (hz : (catN cs items.size).size ≤ sizeLine) (h0 : 0 < items.size) (hT : s.heap.get? T = some (lstO #[] c0)) (has : ∀ j, j < items.size → ∃ c, s.heap.get? (as j) = some (lstO (cs j) c))
    (hQ : ∀ h' tk T' d', (∀ b o, s.heap.get? b = some o → h'.get? b = some o) → h'.get? T' = some (lstO (catN cs items.size) d') → s.heap.get? T' = none → Q (.ref T') { s with heap := h', toks := tk }) :
    wpAny (model prog w) A (call (.builtin "sum") [.ref l, .ref T]) Q E s := by
  refine call_function_tree F.kind_sum F.plain_sum F.entry_sum (args_sum2 _ _) ?_
  unfold Builtin.«sum»
  simp only [List.length_cons, List.length_nil]
  rw [if_neg (by decide)]
  refine wpAny_bind (wpAny_of_eq (show Builtin.Builtins.bindParams "sum" ["start"] 0 ⟨[.ref T], []⟩ = pure [some (.ref T)] from rfl) ?_)
  refine wpAny_bind (wpAny_pyIter_list ⟨_, hl, rfl, _, rfl⟩ ?_)
  refine wpAny_bind (wpAny_pure ?_)
  have hT1 : (s.heap.push { cls := .type "list_iterator", data := .fields #[.ref l, .int 0 0] }).get? T = some (lstO #[] c0) := Heap.get?_push_of_some _ hT
  have ty : Shared.TypeIs { s with heap := s.heap.push { cls := .type "list_iterator", data := .fields #[.ref l, .int 0 0] } } (.ref T) "list" := ⟨_, hT1, rfl⟩
  simp only [List.forIn_cons, List.forIn_nil]
  refine wpAny_bind (wpAny_bind (wpAny_bind (wpAny_isInstance (T := "list") (b := false) ty sub_list_str ?_)))
  simp only [Bool.false_eq_true, if_false]
  refine wpAny_pure (wpAny_bind (wpAny_bind (wpAny_isInstance (T := "list") (b := false) ty sub_list_bytes ?_)))
  simp only [Bool.false_eq_true, if_false]
  refine wpAny_pure (wpAny_bind (wpAny_bind (wpAny_isInstance (T := "list") (b := false) ty sub_list_bytearray ?_)))
  simp only [Bool.false_eq_true, if_false]
  refine wpAny_pure (wpAny_pure ?_)
  refine wpAny_bind (wpAny_newObj_type ?_)
  have z1 : (s.heap.push { cls := .type "list_iterator", data := .fields #[.ref l, .int 0 0] }).objs.size = s.heap.objs.size + 1 := size_push' _ _
  have hll : l < s.heap.objs.size := Heap.lt_size hl
  have hTl : T < s.heap.objs.size := Heap.lt_size hT
  have ne1 : ∀ b, b < s.heap.objs.size → b ≠ s.heap.objs.size := fun b hb => Nat.ne_of_lt hb
  have ne2 : ∀ b, b < s.heap.objs.size → b ≠ (s.heap.push { cls := .type "list_iterator", data := .fields #[.ref l, .int 0 0] }).objs.size := fun b hb => by rw [z1]; exact Nat.ne_of_lt (Nat.lt_succ_of_lt hb)
  have kk : ∀ b o, s.heap.get? b = some o → ((s.heap.push { cls := .type "list_iterator", data := .fields #[.ref l, .int 0 0] }).push { cls := .type "list", data := .seq #[.ref T] }).get? b = some o := fun b o e => Heap.get?_push_of_some _ (Heap.get?_push_of_some _ e)
  refine wpAny_pure ⟨plainId_quiet F.plain_sum_loop _, sumL_loop (I := s.heap.objs.size) (l := l) (items := items) hh (ne1 l hll) as cs hval (s.heap.push { cls := .type "list_iterator", data := .fields #[.ref l, .int 0 0] }).objs.size
    (by rw [z1]; exact Nat.ne_of_gt (Nat.lt_succ_self _)) (ne2 l hll).symm (fun j hj => ?_) hz (g := s.heap) ?_ ?_ items.size 0 _ T 0 c0 2 rfl (Nat.zero_le _) ⟨⟨_, Heap.get?_push_of_some _ (Heap.get?_push_size _ rfl), rfl, rfl⟩, _, kk _ _ hl, rfl, _, rfl⟩ (Heap.get?_push_size _ rfl)
    ⟨ne2 T hTl, ne1 T hTl, kk _ _ hT⟩ (fun j hj => let ⟨c, e⟩ := has j hj; ⟨c, kk _ _ e⟩) kk fun h' tk T' d' k1 k2 k3 _ => ?_⟩
  · obtain ⟨c, e⟩ := has j hj
    exact ⟨ne1 _ (Heap.lt_size e), ne2 _ (Heap.lt_size e)⟩
  · exact Heap.get?_none_of_le (Nat.le_refl _)
  · exact Heap.get?_none_of_le (by rw [z1]; exact Nat.le_succ _)
  · exact hQ h' tk T' d' (fun b o e => k1 b o (ne1 b (Heap.lt_size e)) (ne2 b (Heap.lt_size e)) (kk b o e)) k2 (k3 h0)
end
end L2.K9R
end
section
set_option Elab.async false
set_option linter.all false
set_option maxRecDepth 100000
set_option maxHeartbeats 4000000
namespace L2.K9R
open PySem PySem.Spec PyProof.Rows L2
theorem okThere {P : Program} {w : World} {H : Hp} {h : Heap} {a : Addr} {o : HO} (x : ObjOk P w H h a o) : ∃ u, h.get? a = some u := by
  cases o with
  | lst xs => obtain ⟨_, _, _, _, e⟩ := x; exact ⟨_, e⟩
  | tup xs => obtain ⟨_, _, _, o, e, _⟩ := x; exact ⟨o, e⟩
  | dK kvs => obtain ⟨_, _, _, _, o, _, _, e, _⟩ := x; exact ⟨o, e⟩
  | dT kvs => obtain ⟨_, _, _, _, o, _, _, e, _⟩ := x; exact ⟨o, e⟩
  | set S n => obtain ⟨o, _, _, _, e, _⟩ := x; exact ⟨o, e⟩
  | ins C dx fs => obtain ⟨_, _, _, e, _⟩ := x; exact ⟨_, e⟩
  | own y => obtain ⟨o, e⟩ := x; exact ⟨o, e⟩
  | xd fs => obtain ⟨_, ⟨o, _, _, e, _⟩, _⟩ := x; exact ⟨o, e⟩
  | rng lo hi => obtain ⟨_, _, _, e⟩ := x; exact ⟨_, e⟩
  | frz ob u => obtain ⟨e, _⟩ := x; exact ⟨_, e⟩
  | tbl ps => exact ⟨_, (show h.get? a = some _ from x)⟩
  | met f y => exact ⟨_, (show h.get? a = some _ from x)⟩
  | ext φ => obtain ⟨_, e, _⟩ := x; exact e
/-- the set of texts at a -/
def SetSO (w : World) (a : Addr) (L : List Str) : HO := .ext fun h => SetS w h a L
theorem setSO_new {w : World} {P : Program} {H : Hp} {h : Heap} {a : Addr} {L : List Str} (R : SetS w h a L) : ObjOk P w H h a (SetSO w a L) := by
  have ⟨o, _, _, _, ho, _⟩ := R
  exact ⟨R, ⟨o, ho⟩, fun h1 h2 p k => SetS.at p k⟩
section
variable {X : Cx}
theorem setSO_get {pins : List (Addr × Obj)} {σ : L2.St} {H : Hp} {s : Shared} {a : Addr} {L : List Str} (I : Inv X pins σ H s) (ha : H a = some (SetSO X.w a L)) : SetS X.w s.heap a L := (I.hok a _ ha).1
theorem addS_ok {pins : List (Addr × Obj)} {σ : L2.St} {H : Hp} {s : Shared} {E : Value → Shared → Prop} {D : Addr} {L : List Str} {x : Str} {tk : Tok} {Q : Value → Shared → Prop} (I : Inv X pins σ H s) (hD : H D = some (SetSO X.w D L)) (room : L.length + 1 < scanBound)
    (h : ∀ s', Inv X pins σ (upd H D (SetSO X.w D (addS L x))) s' → Q .none s') : wpAny (model X.prog X.w) X.A (call (.builtin "set.add") [.ref D, .str x tk]) Q E s := by
  refine addCallS (setSO_get I hD) room fun h' t' sb new => ?_
  have he : ∃ u, h'.get? D = some u := by
    have ⟨o, _, _, _, ho, _⟩ := new
    exact ⟨o, ho⟩
  exact h _ (I.write (e := D) (t' := t') (by rw [hD]; trivial) (.inl rfl) (fun b u hb hu => (sb.2 b hb).trans hu) he (setSO_new new))
/-- set(xs), xs a list of texts -/
def rSetOfS (K : PySem.W.Frag) (w : World) : List V → Hp → VK → Prop := fun vs H Q => ∃ (l : Addr) (xs : List Str), vs = [.ref l] ∧ SqL K H l (xs.map V.str) ∧ xs.length + 1 < scanBound ∧ ∀ a, H a = none → Q (.ref a) (upd H a (SetSO w a (addAll xs)))
theorem cr_setOfS (hc : X.calm = true) : CallR X (.type "set") (rSetOfS X.K X.w) := by
  intro pins s σ H vs us Q I r h
  obtain ⟨l, xs, rfl, hl, hf, q⟩ := h
  rw [Vals.ref1 r]
  obtain ⟨its, rv, pl, hz⟩ := I.list hl
  have hn : H s.heap.objs.size = none := I.hok.fresh (Nat.le_refl _)
  refine callSetS (P := X.prog) (w := X.w) xs (I.ok.hd hc) pl.isList (by simpa using rv.strs) hf fun h' tk R k => ?_
  exact ⟨.ref s.heap.objs.size, _, I.laid (t' := tk) k (Nat.le_refl _) (setSO_new R), rfl, q _ hn⟩
/-- sorted(found), found a set of texts -/
def rSortedSetS (w : World) : List V → Hp → VK → Prop := fun vs H Q => ∃ (a : Addr) (L : List Str), vs = [.ref a] ∧ H a = some (SetSO w a L) ∧ ∀ (ys : List Str) (p : Addr), ys.Perm L → sortedS ys = true → H p = none → Q (.ref p) (upd H p (.lst (ys.map V.str)))
theorem cr_sortedSetS (hc : X.calm = true) : CallR X (.builtin "sorted") (rSortedSetS X.w) := by
  intro pins s σ H vs us Q I r h
  obtain ⟨a, L, rfl, ha, q⟩ := h
  have R := setSO_get I ha
  rw [Vals.ref1 r]
  refine sortedSetS R (I.ok.hd hc) fun s' p out c ys k g o hp hg hi pm hs => ?_
  have hlen : (ys.map V.str).length ≤ sizeLine := by
    rw [List.length_map, pm.length_eq]
    exact fits_of_scanBound R.size
  have hn : H p = none := I.hok.fresh hp
  have J : Inv X pins σ (upd H p (.lst (ys.map V.str))) { s with heap := s'.heap, gens := s'.gens, drawn := s'.drawn, toks := s'.toks } :=
    I.call (ch := []) (Un.laid k hp hn) (I.hok.laid k hp ⟨hlen, out.toList, c, vals_of_strs hi, hg⟩) (by rw [g]; exact I.bare) (fun _ z => nomatch z)
  have e : s' = { s with heap := s'.heap, gens := s'.gens, drawn := s'.drawn, toks := s'.toks } := by
    cases s'
    cases s
    cases o
    rfl
  rw [e]
  exact ⟨.ref p, _, J, rfl, q ys p pm hs hn⟩
/-- list(text): its signs -/
def signsV (z : Str) : List V := z.cps.toList.map fun c => V.str ⟨#[c]⟩
def rListStr : List V → Hp → VK → Prop := fun vs H Q => ∃ z : Str, vs = [.str z] ∧ z.cps.size ≤ sizeLine ∧ ∀ p, H p = none → Q (.ref p) (upd H p (.lst (signsV z)))
theorem call_listStr (hc : X.calm = true) : CallR X (.type "list") rListStr := by
  intro pins s σ H vs us Q I r h
  obtain ⟨z, rfl, hz, q⟩ := h
  obtain ⟨u, rfl, ru⟩ := vals1 r
  obtain ⟨t, rfl⟩ := ru
  refine call_list_str (hn := hz) (I.ok.hd hc) z t fun h' tk acc c k hS hacc => ?_
  have hn : H s.heap.objs.size = none := I.hok.fresh (Nat.le_refl _)
  refine ⟨.ref s.heap.objs.size, _, I.laid (o := .lst (signsV z)) (t' := tk) k (Nat.le_refl _) ⟨?_, acc.toList, c, ?_, by simpa using hS⟩, rfl, q _ hn⟩
  · rw [signsV, List.length_map, Array.length_toList]
    exact hz
  · obtain ⟨h1, h2⟩ := hacc
    have hl : acc.toList.length = z.cps.toList.length := by rw [Array.length_toList, Array.length_toList, h1]
    have gen : ∀ (ks : List Nat) (us : List Value), us.length = ks.length → (∀ (i : Nat) v, us[i]? = some v → ∃ c t, ks[i]? = some c ∧ v = .str ⟨#[c]⟩ t) → Vals (ks.map fun c => V.str ⟨#[c]⟩) us := by
      intro ks
      induction ks with
      | nil =>
        intro us hu _
        rw [List.length_eq_zero_iff.mp hu]
        exact .nil
      | cons k ks ih =>
        intro us hu hv
        cases us with
        | nil => simp at hu
        | cons v us =>
          obtain ⟨c, t, e1, e2⟩ := hv 0 v rfl
          have e1' : k = c := Option.some.inj e1
          subst e1'
          exact .cons ⟨t, e2⟩ (ih us (by simpa using hu) fun i u hiu => hv (i + 1) u hiu)
    refine gen _ _ hl fun i v hv => ?_
    have hv' : acc[i]? = some v := by rw [← Array.getElem?_toList]; exact hv
    have q2 := h2 i v hv'
    first
      | (obtain ⟨c, t, e1, e2⟩ := q2; exact ⟨c, t, by rw [Array.getElem?_toList]; exact e1, e2⟩)
      | (obtain ⟨c, e1, t, e2⟩ := q2; exact ⟨c, t, by rw [Array.getElem?_toList]; exact e1, e2⟩)
/-- sum(lists, []) -/
def rSumL (K : PySem.W.Frag) : List V → Hp → VK → Prop := fun vs H Q => ∃ (l p0 : Addr) (as : List Addr) (css : List (List V)), vs = [.ref l, .ref p0] ∧ H l = some (.lst (as.map V.ref)) ∧ as ≠ [] ∧ H p0 = some (.lst []) ∧ as.length = css.length ∧
  (∀ (j : Nat) a cs, as[j]? = some a → css[j]? = some cs → H a = some (.lst cs)) ∧ css.flatten.length ≤ sizeLine ∧ ∀ p, H p = none → Q (.ref p) (upd H p (.lst css.flatten))
theorem cr_sumL (hc : X.calm = true) : CallR X (.builtin "sum") (rSumL X.K) := by
  intro pins s σ H vs us Q I r h
  obtain ⟨l, p0, as, css, rfl, hl, hne, h0, hlen, hat, hz, q⟩ := h
  obtain ⟨u, w', rfl, ru, rw'⟩ := vals2 r
  cases ru
  cases rw'
  obtain ⟨z1, its, n, r1, hl1, e1⟩ := I.lstM hl
  obtain ⟨z2, its0, n0, r0, hl0, e0⟩ := I.lstM h0
  cases r0
  have ei : its = as.map Value.ref := refs_at r1
  subst ei
  -- the contents of the j-th list
  have hc1 : ∀ j, j < as.length → ∃ (cs : List Value) (c : Nat) (a : Addr) (vs : List V), as[j]? = some a ∧ css[j]? = some vs ∧ Vals vs cs ∧ s.heap.get? a = some (lstO cs.toArray c) := fun j hj => by
    have hj' : j < css.length := by omega
    obtain ⟨_, cs, c, rr, _, e⟩ := I.lstM (hat j _ _ (List.getElem?_eq_getElem hj) (List.getElem?_eq_getElem hj'))
    exact ⟨cs, c, _, _, List.getElem?_eq_getElem hj, List.getElem?_eq_getElem hj', rr, e⟩
  let cs : Nat → Array Value := fun j => if h : j < as.length then (Classical.choose (hc1 j h)).toArray else #[]
  have hcs : ∀ j, j < as.length → ∃ (c : Nat) (a : Addr) (vs : List V), as[j]? = some a ∧ css[j]? = some vs ∧ Vals vs (cs j).toList ∧ s.heap.get? a = some (lstO (cs j) c) := fun j hj => by
    obtain ⟨c, a, vs, h1, h2, h3, h4⟩ := Classical.choose_spec (hc1 j hj)
    refine ⟨c, a, vs, h1, h2, ?_, ?_⟩
    · show Vals vs (if h : j < as.length then _ else _ : Array Value).toList
      rw [dif_pos hj]
      simpa using h3
    · show s.heap.get? a = some (lstO (if h : j < as.length then _ else _) c)
      rw [dif_pos hj]
      exact h4
  have hcat : ∀ i, i ≤ as.length → Vals (css.take i).flatten (catN cs i).toList := by
    intro i
    induction i with
    | zero => intro _; simpa [catN] using (Paired.nil : Vals [] [])
    | succ i ih =>
      intro hi
      obtain ⟨_, a, vs, _, h2, h3, _⟩ := hcs i hi
      rw [List.take_add_one, h2]
      show Vals (css.take i ++ [vs]).flatten (catN cs i ++ cs i).toList
      rw [List.flatten_append, Array.toList_append]
      simpa using (ih (Nat.le_of_succ_le hi)).append h3
  have hsz : (as.map Value.ref).toArray.size = as.length := by simp
  have hfull : Vals css.flatten (catN cs as.length).toList := by
    have q := hcat as.length (Nat.le_refl _)
    rw [hlen, List.take_length] at q
    rw [hlen]
    exact q
  have hfl : (catN cs as.length).size ≤ sizeLine := by
    rw [← Array.length_toList, ← hfull.length]
    exact hz
  refine sumL_call (s := s) (items := (as.map Value.ref).toArray) (I.ok.hd hc) e1 (fun j => as.getD j 0) cs (fun i v hv => ?_) (by rw [hsz]; exact hfl) (by rw [hsz]; exact List.length_pos_iff.mpr hne) e0 (fun j hj => ?_) fun h' tk T' d' k1 k2 k3 => ?_
  · have q2 : (as.map Value.ref)[i]? = some v := by simpa using hv
    rw [List.getElem?_map] at q2
    cases e : as[i]? with
    | none => rw [e] at q2; cases q2
    | some a =>
      rw [e] at q2
      rw [List.getD_eq_getElem?_getD, e]
      exact (Option.some.inj q2).symm
  · rw [hsz] at hj
    obtain ⟨c, a, vs, h1, _, _, h4⟩ := hcs j hj
    exact ⟨c, by rw [List.getD_eq_getElem?_getD, h1]; exact h4⟩
  · have hn : H T' = none := by
      cases e : H T' with
      | none => rfl
      | some o =>
        obtain ⟨u, hu⟩ := okThere (I.hok T' o e)
        rw [hu] at k3
        cases k3
    rw [hsz] at k2
    have ok : ObjOk X.prog X.w (upd H T' (.lst css.flatten)) h' T' (.lst css.flatten) := ⟨hz, (catN cs as.length).toList, d', hfull, by simpa using k2⟩
    refine ⟨.ref T', upd H T' (.lst css.flatten), I.un (t' := tk) ?_ ?_, rfl, q T' hn⟩
    · have nm : ∀ b o, H b = some o → b ≠ T' := fun b o e z => by rw [z, hn] at e; cases e
      have nh : ∀ b o, s.heap.get? b = some o → b ≠ T' := fun b o e z => by rw [z, k3] at e; cases e
      exact ⟨fun b o e _ _ _ => k1 b o e, fun b o e _ _ _ => ⟨o.slots, k1 b o e⟩, fun b o e n _ => by rw [upd_ne (nh b o e)]; exact n, fun b o e _ => ⟨o, k1 b o e⟩, fun b xs e => by rw [upd_ne (nm b _ e)]; exact e,
        fun b o u e => by rw [upd_ne (nm b _ e)]; exact e, fun b ps e => ⟨#[], by rw [upd_ne (nm b _ e), e]; simp⟩⟩
    · intro b u e
      by_cases hb : b = T'
      · subst hb
        rw [upd_same] at e
        cases e
        exact ok
      · rw [upd_ne hb] at e
        refine (I.hok b u e).stay (fun c v _ z => k1 c v z) (fun c z => ?_) fun c xs z => ?_
        · rw [upd_ne (ne_of_none z hn)]; exact z
        · rw [upd_ne (ne_of_none z hn)]; exact z
end
end L2.K9R
end
section
set_option Elab.async false
set_option linter.all false
set_option maxRecDepth 100000
set_option maxHeartbeats 4000000
namespace L2.K9R
open PySem PySem.Spec PyProof.Rows L2
/-! a dict comprehension whose keys are tuples: after the layer's own for keys by value -/
theorem dT_dictSet {X : Cx} {pins : List (Addr × Obj)} {σ : L2.St} {H : Hp} {s : Shared} {E : Value → Shared → Prop} {D b : Addr} {kvs : List (List Key × V)} {k : List Key} {v : V} {u r : Value} {Q : Unit → Shared → Prop} (hu : X.A.units + 1 < cLine)
    (I : Inv X pins σ H s) (hD : H D = some (.dT kvs)) (hz : kvs.length < sizeLine) (hb : H b = some (.tup (k.map kV))) (ry : RelV (.ref b) u) (rv : RelV v r) (h : ∀ s', Inv X pins σ (upd H D (.dT (putK kvs k v))) s' → Q () s') :
    wpAny (model X.prog X.w) X.A (dictSet D u r) Q E s := by
  cases (show u = Value.ref b from ry)
  obtain ⟨z, hd, xs, rel, dd⟩ := dt_of I.hok hD
  have hz' : xs.length ≤ sizeLine := by rw [← Paired.length rel]; exact z
  have hl : (putK kvs k v).length ≤ sizeLine := by
    have := length_putK kvs k v
    omega
  refine wpAny_dictSet_heap (knd := tupleKind (mixKind X.prog X.w)) (hsz := hz') (by show X.A.units < cLine; omega) (key_of I.hok hb) dd fun h' dd' hs => h _ ?_
  obtain ⟨q, es, ep, hq, h2, h3, h4, _, h5⟩ := dd'
  refine d_write I (by rw [hD]; exact True.intro) hs ⟨q, hq⟩ ⟨hl, hd, _, (rel.put k hb rv).keeps fun c ys ec => ?_, q, es, ep, hq, h2, h3, h4, h5⟩
  rw [upd_ne (ne_of ec hD (fun z => nomatch z))]
  exact ec
section
variable {X : Cx}
/-- {k: v for target in iter if ..}, keys tuples: D the new dict -/
def tDcT (wi : TI) (g : TG) (tt : TT) (tk tv : TE) (vs : List Nat) : TE := fun σ H Q => wi σ H fun J H1 => ∀ D, H1 D = none → ∃ W : Nat → Nat → Hp → Prop, (∃ m, W 0 m (upd H1 D (.dT []))) ∧ ∀ i m H, W i m H →
  (J.stop i H ∧ Q (.ref D) H) ∨ (J.go i H ∧ ∃ Nx : Hp → Prop, (∀ H', Nx H' → ∃ m', m' < m ∧ W (i + 1) m' H') ∧ ∀ x H', J.yld i H x H' → g x (wipe σ vs) H' fun σ2 H2 => wipe σ2 vs = wipe σ vs ∧ tt σ2 H2 fun b H3 =>
    if b = true then tk σ2 H3 fun y H4 => tv σ2 H4 fun z H5 => ∃ kvs k kb, y = .ref kb ∧ H5 kb = some (.tup (k.map kV)) ∧ H5 D = some (.dT kvs) ∧ kvs.length < sizeLine ∧ Nx (upd H5 D (.dT (putK kvs k z))) else Nx H3)
theorem dcT_core {pins : List (Addr × Obj)} {s : Shared} {σ : St} {H : Hp} {Q : VK} {kx vx tg iter : Expr} {ifs : List Expr} {scope : Scope} {own : List (Str × Nat)} {pos pos' : Pos} {wi : TI} {g : TG} {tt : TT} {tk tv : TE} {use : Option (Value → Sem Unit)} {Qf : Value → Shared → Prop}
    (hu : X.A.units + 1 < cLine) (hc : X.calm = true) (hN : X.N.Nodup) (I : Inv X pins σ H s) (hi : PI X tg iter wi) (ok : BlkOk X.N X.env.scope scope own)
    (hg : ∀ (s : Shared) (H : Hp) (C : Addr) (cl : List (Str × Addr)) (fp : List Addr), PG (X.blk s H scope (compEnvC scope cl C X.env) fp) tg g) (ht : ∀ (s : Shared) (H : Hp) (C : Addr) (cl : List (Str × Addr)) (fp : List Addr), PTs (X.blk s H scope (compEnvC scope cl C X.env) fp) ifs tt)
    (hk : ∀ (s : Shared) (H : Hp) (C : Addr) (cl : List (Str × Addr)) (fp : List Addr), PE (X.blk s H scope (compEnvC scope cl C X.env) fp) kx tk)
    (he : ∀ (s : Shared) (H : Hp) (C : Addr) (cl : List (Str × Addr)) (fp : List Addr), PE (X.blk s H scope (compEnvC scope cl C X.env) fp) vx tv) (hs : ∀ x, foldedSetIterable iter X.env x = pure x)
    (h : tDcT wi g tt tk tv (own.map (·.2)) σ H Q)
    (hRR : ∀ D C s' m H', Inv X pins σ H' s' → Q (.ref D) H' → s'.heap.Ns C m → FpOk X pins H' C → compPost (model X.prog X.w) X.A X.xe use Qf (.ref D) C (.ok .next) s') :
    wpAny (model X.prog X.w) X.A (comprehension (.DictComp kx vx [⟨tg, iter, ifs, 0⟩] scope pos) scope X.env pos' newDict false (eval iter X.env) use) Qf X.xe s := by
  have hfree : ∀ y ∈ scope.names, y.2 = .free → ∃ c, X.env.cells.lookup y.1 = some c := fun y hy e => by
    rcases ok.free y hy e with k | k
    · exact I.ok.has _ (.inl k)
    · exact I.ok.has _ (.inr k)
  refine wpAny_comprehension_free (use := use) rfl hs (closure_ok hfree) ok.kind (fun y hy e => by rw [ok.uniq y hy, e])
    (thn (hi.run pins s σ H _ I h) fun xv s1 hx => thn hx fun itv s2 h2 => ?_)
  obtain ⟨it, fp, tn, J, H2, e, I2, T, st2, f2, q⟩ := h2
  subst e
  refine wpAny_newObj_type (newEnv_comp ?_)
  generalize hD : s2.heap.objs.size = D
  have hDn : H2 D = none := I2.hok.fresh (Nat.le_of_eq hD)
  obtain ⟨W, ⟨m0, w0⟩, turn⟩ := q D hDn
  -- the new list
  generalize hs3 : ({ s2 with heap := s2.heap.push { cls := .type "dict", data := .dict #[] } } : Shared) = s3
  have I3 : Inv X pins σ (upd H2 D (.dT [])) s3 := by
    rw [← hs3]
    refine I2.laid (t' := s2.toks) (fun b o e => Heap.get?_push_of_some _ e) (Nat.le_of_eq hD) ?_
    rw [← hD]
    exact dt_empty s2.heap I2.big
  have h3 : s3.heap = s2.heap.push { cls := .type "dict", data := .dict #[] } := by rw [← hs3]
  have sz : ∀ b ∈ fp, b < s2.heap.objs.size := fun b hb => by
    obtain ⟨o, e, _⟩ := T.obj _ _ st2 b hb
    exact Heap.lt_size e
  have f3 : ∀ b ∈ fp, FpOk X pins (upd H2 D (.dT [])) b ∧ b < s3.heap.objs.size := fun b hb => by
    have hlt := sz b hb
    refine ⟨⟨?_, (f2 b hb).2⟩, by rw [h3, Heap.size_push]; exact Nat.lt_succ_of_lt hlt⟩
    rw [upd_ne (by rw [← hD]; exact Nat.ne_of_lt hlt)]
    exact (f2 b hb).1
  have st3 : tn 0 s3.heap := T.keep _ _ _ st2 fun b _ o e => by rw [h3]; exact Heap.get?_push_of_some _ e
  have I4 := block_start I3 ok hN f3
  have pg := hg s3 (upd H2 D (.dT [])) s3.heap.objs.size (cellsFrom (s3.heap.objs.size + 1) scope.names (cloFrom X.env.cells scope.names [])) fp
  have pt := ht s3 (upd H2 D (.dT [])) s3.heap.objs.size (cellsFrom (s3.heap.objs.size + 1) scope.names (cloFrom X.env.cells scope.names [])) fp
  have pk := hk s3 (upd H2 D (.dT [])) s3.heap.objs.size (cellsFrom (s3.heap.objs.size + 1) scope.names (cloFrom X.env.cells scope.names [])) fp
  have pe := he s3 (upd H2 D (.dT [])) s3.heap.objs.size (cellsFrom (s3.heap.objs.size + 1) scope.names (cloFrom X.env.cells scope.names [])) fp
  show codeAny _ _ (.compStart (.DictComp kx vx [⟨tg, iter, ifs, 0⟩] scope pos) 0 (.ref it) (.ref D) (compEnvC scope (cellsFrom (s3.heap.objs.size + 1) scope.names (cloFrom X.env.cells scope.names [])) s3.heap.objs.size X.env)) (compPost (model X.prog X.w) X.A X.xe use Qf (.ref D) s3.heap.objs.size) { s3 with heap := pushCells (s3.heap.push { cls := .type "dict", data := .dict #[] }) scope.names }
  have nfp : ∀ b ∈ fp, (upd H2 D (.dT [])) b = none := fun b hb => (f3 b hb).1.1
  generalize hce : compEnvC scope (cellsFrom (s3.heap.objs.size + 1) scope.names (cloFrom X.env.cells scope.names [])) s3.heap.objs.size X.env = ce at I4 pg pt pk pe ⊢
  have cL : ce.locals = s3.heap.objs.size := by subst hce; rfl
  generalize hH3 : upd H2 D (.dT []) = H3 at I3 I4 pg pt pk pe w0 nfp f3
  generalize hs4 : ({ s3 with heap := pushCells (s3.heap.push { cls := .type "dict", data := .dict #[] }) scope.names } : Shared) = s4 at I4 ⊢
  have st4 : tn 0 s4.heap := T.keep _ _ _ st3 fun b _ o e => by rw [← hs4]; exact pushCells_keeps _ _ _ _ (Heap.get?_push_of_some _ e)
  have stat : ∀ {σ' : St} {H' : Hp} {s' : Shared}, Inv (X.blk s3 H3 scope ce fp) [] σ' H' s' → (∀ b ∈ fp, H' b = none) → ∀ b ∈ fp, FpOk (X.blk s3 H3 scope ce fp) [] H' b := fun {σ' H' s'} I' hn b hb =>
    ⟨hn b hb, (I'.ok.exf b hb).1, I'.ok.exfs b hb, .inl hb, fun x c e => (I'.ok.exf b hb).2 x c e, fun p hp => absurd (show p ∈ ([] : List (Addr × Obj)) ++ [] from hp) (by simp)⟩
  have loop : codeAny (model X.prog X.w) X.A (.compLoop (.DictComp kx vx [⟨tg, iter, ifs, 0⟩] scope pos) 0 (.ref it) (.ref D) ce) (compPost (model X.prog X.w) X.A X.xe use Qf (.ref D) s3.heap.objs.size) s4 := by
    refine compLoop_anyD (fun n s' => ∃ i H', Inv (X.blk s3 H3 scope ce fp) [] (wipe σ (own.map (·.2))) H' s' ∧ tn i s'.heap ∧ (∀ b ∈ fp, H' b = none) ∧ W i n H') ?_ m0 ⟨0, H3, I4, st4, nfp, w0⟩
    rintro n s5 ⟨i, H5, I5, st5, n5, w5⟩
    rcases turn i n H5 w5 with ⟨stop, qq⟩ | ⟨go, Nx, hNx, step⟩
    · have td := T.done (X.blk s3 H3 scope ce fp) rfl rfl rfl hc i [] s5 _ H5 (fun _ _ => False) I5 (stat I5 n5) st5 stop
      refine thnF td fun r s6 ⟨hr, I6⟩ => ?_
      subst hr
      -- back in the def's context
      have I7 : Inv X pins σ H5 s6 := I3.call' (ch := fp) I6.os I6.base I6.hok I6.bare fun b hb => ⟨(f3 b hb).1.2.2.2.1, (f3 b hb).1.2.1, (f3 b hb).1.2.2.2.2.1, (f3 b hb).1.2.2.2.2.2⟩
      have nC : H5 s3.heap.objs.size = none := by
        have z : H5 ce.locals = none := I6.free
        rw [cL] at z
        exact z
      obtain ⟨m, hn, _⟩ := I6.loc
      have hn : s6.heap.Ns ce.locals m := hn
      rw [cL] at hn
      exact hRR D s3.heap.objs.size s6 m H5 I7 qq hn (I3.fpOk (Nat.le_refl _) nC)
    · have ti := T.item (X.blk s3 H3 scope ce fp) rfl rfl rfl hc i [] s5 _ H5 (fun _ _ => False) I5 (stat I5 n5) st5 go
      refine thnF ti fun r s6 ⟨u, hr, h6⟩ => ?_
      subst hr
      refine thnF h6 fun _ s7 ⟨x, H7, I7, r7, y7, st7, n7⟩ => ?_
      have I7' := I7.pinned (stat I7 n7) (T.obj _ _ st7)
      refine thnF (pg.run _ s7 _ H7 x u _ I7' r7 (step x H7 y7)) fun _ s8 ⟨σ8, H8, I8, hw8, q8⟩ => ?_
      refine thnF (pt.run _ s8 σ8 H8 _ I8 q8) fun b s9 ⟨H9, I9, q9⟩ => ?_
      -- the turn's end
      have fin : ∀ {s' : Shared} {H' : Hp}, Inv (X.blk s3 H3 scope ce fp) ([] ++ pinsAt fp s7.heap) σ8 H' s' → Nx H' → ∃ m, m < n ∧ ∃ i H', Inv (X.blk s3 H3 scope ce fp) [] (wipe σ (own.map (·.2))) H' s' ∧ tn i s'.heap ∧ (∀ b ∈ fp, H' b = none) ∧ W i m H' := fun {s' H'} I' nx => by
        obtain ⟨m', hm, w'⟩ := hNx H' nx
        have pin' : ∀ b ∈ fp, ∀ o, s7.heap.get? b = some o → s'.heap.get? b = some o ∧ H' b = none := fun b hb o e =>
          let z := I'.pin (b, o) (List.mem_append_right _ (List.mem_append_right _ (mem_pinsAt hb e)))
          ⟨z.1, z.2.1⟩
        have hl : (wipe σ (own.map (·.2))).length = σ8.length := by rw [← hw8, wipe_length]
        refine ⟨m', hm, i + 1, H', (I'.unpinned (pins := [])).weak hl (fun j v e => ?_), T.keep _ _ _ st7 fun b hb o e => (pin' b hb o e).1, fun b hb => ?_, w'⟩
        · rw [← hw8] at e
          exact (wipe_some e).1
        · obtain ⟨o, e, _⟩ := T.obj _ _ st7 b hb
          exact (pin' b hb o e).2
      cases b with
      | false =>
        simp only [Bool.false_eq_true, if_false] at q9 ⊢
        exact fin I9 q9
      | true =>
        simp only [if_true] at q9 ⊢
        refine thnF (pk.run _ s9 σ8 H9 _ I9 q9) fun z s10 ⟨yk, H10, I10, r10, q10⟩ => ?_
        refine thnF (pe.run _ s10 σ8 H10 _ I10 q10) fun z2 s11 ⟨yv, H11, I11, r11, kvs, k, kb, ek, hk11, hD11, hz11, nx⟩ => ?_
        subst ek
        exact dT_dictSet (X := X.blk s3 H3 scope ce fp) hu I11 hD11 hz11 hk11 r10 r11 fun s12 I12 => fin I12 nx
  exact codeAny_compStart_dict loop (T.self X.A 0 _ _ _ st4 loop)
theorem pe_dcT {kx vx tg iter : Expr} {ifs : List Expr} {scope : Scope} {own : List (Str × Nat)} {pos : Pos} {wi : TI} {g : TG} {tt : TT} {tk tv : TE} (hu : X.A.units + 1 < cLine) (hc : X.calm = true) (hN : X.N.Nodup) (hi : PI X tg iter wi) (ok : BlkOk X.N X.env.scope scope own)
    (hg : ∀ (s : Shared) (H : Hp) (C : Addr) (cl : List (Str × Addr)) (fp : List Addr), PG (X.blk s H scope (compEnvC scope cl C X.env) fp) tg g) (ht : ∀ (s : Shared) (H : Hp) (C : Addr) (cl : List (Str × Addr)) (fp : List Addr), PTs (X.blk s H scope (compEnvC scope cl C X.env) fp) ifs tt)
    (hk : ∀ (s : Shared) (H : Hp) (C : Addr) (cl : List (Str × Addr)) (fp : List Addr), PE (X.blk s H scope (compEnvC scope cl C X.env) fp) kx tk)
    (he : ∀ (s : Shared) (H : Hp) (C : Addr) (cl : List (Str × Addr)) (fp : List Addr), PE (X.blk s H scope (compEnvC scope cl C X.env) fp) vx tv) (hs : ∀ x, foldedSetIterable iter X.env x = pure x := by intro _; rfl) :
    PE X (.DictComp kx vx [⟨tg, iter, ifs, 0⟩] scope pos) (tDcT wi g tt tk tv (own.map (·.2))) := by
  refine ⟨fun pins s σ H Q I h => ?_⟩
  rw [arm_eval_DictComp]
  refine dcT_core hu hc hN I hi ok hg ht hk he hs h fun D C s' m H' I' q hn f => ⟨m, hn, fun h'' sb => ?_⟩
  obtain ⟨f0, f1, f2, f3, f4, f5⟩ := f
  exact ⟨.ref D, H', I'.turned (t' := s'.toks) (fun b o hb e => (sb.2 b hb).trans e) f0 f1 f3 f4 f5, rfl, q⟩
/-- name = {k: v for ..} on one line, the name a local -/
theorem ps_setDc {i : Nat} {y : Str} {py : Pos} {kx vx tg iter : Expr} {ifs : List Expr} {scope : Scope} {own : List (Str × Nat)} {pos spos : Pos} {wi : TI} {g : TG} {tt : TT} {tk tv : TE} (hc : X.calm = true) (hN : X.N.Nodup) (hy : X.N[i]? = some y) (hyl : X.env.scope.names.lookup y = some .local)
    (hsw : swapsWith (.DictComp kx vx [⟨tg, iter, ifs, 0⟩] scope pos) (some (.Name y py)) spos.line X.env = pure true) (hi : PI X tg iter wi) (ok : BlkOk X.N X.env.scope scope own)
    (hg : ∀ (s : Shared) (H : Hp) (C : Addr) (cl : List (Str × Addr)) (fp : List Addr), PG (X.blk s H scope (compEnvC scope cl C X.env) fp) tg g) (ht : ∀ (s : Shared) (H : Hp) (C : Addr) (cl : List (Str × Addr)) (fp : List Addr), PTs (X.blk s H scope (compEnvC scope cl C X.env) fp) ifs tt)
    (hk : ∀ (s : Shared) (H : Hp) (C : Addr) (cl : List (Str × Addr)) (fp : List Addr), PE (X.blk s H scope (compEnvC scope cl C X.env) fp) kx tk)
    (he : ∀ (s : Shared) (H : Hp) (C : Addr) (cl : List (Str × Addr)) (fp : List Addr), PE (X.blk s H scope (compEnvC scope cl C X.env) fp) vx tv) (hs : ∀ x, foldedSetIterable iter X.env x = pure x := by intro _; rfl) :
    PS X (.Assign [.Name y py] (.DictComp kx vx [⟨tg, iter, ifs, 0⟩] scope pos) spos) (tAsg (tDc wi g tt tk tv (own.map (·.2))) (gName i)) := by
  refine ⟨fun pins s σ H D I h => ?_⟩
  rw [exec_Assign_Name_used _ _ _ _ hsw]
  refine wpAny_bind (wpAny_standAt (wpAny_bind ?_))
  show wpAny _ X.A (do let _ ← comprehension (.DictComp kx vx [⟨tg, iter, ifs, 0⟩] scope pos) scope X.env (firstIterPos [⟨tg, iter, ifs, 0⟩] pos) newDict false (eval iter X.env) (some (assign (.Name y py) X.env))) _ _ s
  have h : tDc wi g tt tk tv (own.map (·.2)) σ H (fun x H1 => gName i x σ H1 D.nx) := h
  refine wpAny_bind (thn (dc_core (Qf := fun _ s' => SP X pins D .next s') hc hN I hi ok hg ht hk he hs h fun L C s' m H' I' q hn f => ?_) fun _ s' hq => wpAny_pure (wpAny_pure hq))
  show wpAny _ _ (assign (.Name y py) X.env (.ref L)) _ _ _
  refine wpAny_assign_Name (store_ok2 (v := V.ref L) I' hN hy (.inl hyl) rfl (fun s2 I2 ⟨a, sb, ha⟩ => ?_) (.inr hyl))
  obtain ⟨f0, f1, f2, f3, f4, f5⟩ := f
  have haC : C ≠ a := by
    rcases ha with z | z
    · rw [z]; exact f1
    · exact fun e => f4 y a z e.symm
  refine ⟨m, hn.sameBut sb haC, fun h3 sb3 => ?_⟩
  exact ⟨_, H', I2.turned (t' := s2.toks) (fun b o hb e => (sb3.2 b hb).trans e) f0 f1 f3 f4 f5, q⟩
theorem swDc_true {kx vx : Expr} {gs : List Comprehension} {scope : Scope} {pos py : Pos} {y : Str} {l : Nat} {env : Env} (hk : env.scope.kind = .function) (hy : env.scope.names.lookup y = some .local) (hl : (py.line == pos.line) = true)
    (ha : (scope.names.any fun (n, k) => n == y && (k == .local || k == .cell)) = false) : swapsWith (.DictComp kx vx gs scope pos) (some (.Name y py)) l env = pure true := by
  have ky : env.kindOf y = some .local := hy
  have hb : env.blockKind = .function := by unfold Env.blockKind; rw [hk]; rfl
  unfold swapsWith
  simp only [hb, ky, ha, Expr.pos, hl]
  rfl
end
end L2.K9R
end
section
set_option Elab.async false
set_option linter.all false
set_option maxRecDepth 100000
set_option maxHeartbeats 4000000
namespace L2.K9R
open PySem PySem.Spec PyProof.Rows L2
/-! a set comprehension of two clauses, its elements texts: after the layer's own for lists -/
theorem compTurn2_outS (elt t0 i0 t1 i1 : Expr) (ifs0 ifs1 : List Expr) (scope : Scope) (pos : Pos) (it acc : Value) (env : Env) :
    compTurn (.SetComp elt [⟨t0, i0, ifs0, 0⟩, ⟨t1, i1, ifs1, 0⟩] scope pos) 0 it acc env = (do
      standAt i0.pos
      match ← pyNext it with
      | none => pure (.done .next)
      | some v =>
        letOwnedTupleGo t0 it v
        assign t0 env v
        let mut ok := true
        for c in ifs0 do
          if ok then ok ← isTrue c env (eval c env)
        if ok then
          let x ← eval i1 env
          standAt i1.pos
          let x ← foldedSetIterable i1 env x
          let _ ← runOwn (.compStart (.SetComp elt [⟨t0, i0, ifs0, 0⟩, ⟨t1, i1, ifs1, 0⟩] scope pos) 1 (← holding [x] (pyIter x)) acc env) env
        again (.compLoop (.SetComp elt [⟨t0, i0, ifs0, 0⟩, ⟨t1, i1, ifs1, 0⟩] scope pos) 0 it acc env)) := by rfl
theorem compTurn2_inS (elt t0 i0 t1 i1 : Expr) (ifs0 ifs1 : List Expr) (scope : Scope) (pos : Pos) (it acc : Value) (env : Env) :
    compTurn (.SetComp elt [⟨t0, i0, ifs0, 0⟩, ⟨t1, i1, ifs1, 0⟩] scope pos) 1 it acc env = (do
      standAt i1.pos
      match ← pyNext it with
      | none => pure (.done .next)
      | some v =>
        letOwnedTupleGo t1 it v
        assign t1 env v
        let mut ok := true
        for c in ifs1 do
          if ok then ok ← isTrue c env (eval c env)
        if ok then
          (do let v ← eval elt env; standAt elt.pos; let _ ← call (.builtin "set.add") [acc, v])
        again (.compLoop (.SetComp elt [⟨t0, i0, ifs0, 0⟩, ⟨t1, i1, ifs1, 0⟩] scope pos) 1 it acc env)) := by rfl

section
variable {prog : Program} {w : World} {A : Around} {R : Result → Shared → Prop} {s : Shared} {elt t0 i0 t1 i1 : Expr} {ifs0 ifs1 : List Expr} {scope : Scope} {pos : Pos} {it acc : Value} {env : Env}
/-- the loop of the first clause -/
theorem compLoop2_outS (hs : ∀ x, foldedSetIterable i1 env x = pure x) (I : Nat → Shared → Prop)
    (turn : ∀ n s, I n s → wpAny (model prog w) A (pyNext it) (fun r s₁ => match r with
      | none => R (.ok .next) s₁
      | some v => wpAny (model prog w) A (letOwnedTupleGo t0 it v) (fun _ s₁' => wpAny (model prog w) A (assign t0 env v) (fun _ s₂ =>
          wpAny (model prog w) A (forIn ifs0 true fun c r => if r = true then do let ok ← isTrue c env (eval c env); pure (ForInStep.yield ok) else pure (ForInStep.yield r)) (fun ok s₃ =>
            if ok = true then wpAny (model prog w) A (eval i1 env) (fun x s₄ => wpAny (model prog w) A (pyIter x) (fun it1 s₅ =>
              codeAny (model prog w) A (.compStart (.SetComp elt [⟨t0, i0, ifs0, 0⟩, ⟨t1, i1, ifs1, 0⟩] scope pos) 1 it1 acc env) (fun r s' => match r with
                | .ok _ => ∃ m, m < n ∧ I m s'
                | .error _ => False) s₅) (notedBy (model prog w) A env fun e s' => R (.error e) s') s₄) (notedBy (model prog w) A env fun e s' => R (.error e) s') s₃
            else ∃ m, m < n ∧ I m s₃) (notedBy (model prog w) A env fun e s' => R (.error e) s') s₂) (notedBy (model prog w) A env fun e s' => R (.error e) s') s₁') (notedBy (model prog w) A env fun e s' => R (.error e) s') s₁) (notedBy (model prog w) A env fun e s' => R (.error e) s') s)
    (n : Nat) (h : I n s) :
    codeAny (model prog w) A (.compLoop (.SetComp elt [⟨t0, i0, ifs0, 0⟩, ⟨t1, i1, ifs1, 0⟩] scope pos) 0 it acc env) R s := by
  refine codeAny_loop rfl I (fun n s hI => ?_) n h
  show wpAny _ A ((compTurn (.SetComp elt [⟨t0, i0, ifs0, 0⟩, ⟨t1, i1, ifs1, 0⟩] scope pos) 0 it acc env).onRaise (fun x => do noteFrame x env; theTreesLotGoes x)) _ _ s
  refine wpAny_noted ?_
  rw [compTurn2_outS]
  refine wpAny_bind (wpAny_standAt (wpAny_bind (wpAny_mono (turn n s hI) (fun r s₁ h₁ => ?_) fun _ _ h' => h')))
  cases r with
  | none => exact wpAny_pure h₁
  | some v =>
    refine wpAny_bind (wpAny_mono h₁ (fun _ s₁' h₁' => ?_) fun _ _ h' => h')
    refine wpAny_bind (wpAny_mono h₁' (fun _ s₂ h₂ => wpAny_bind (wpAny_mono h₂ (fun ok s₃ h₃ => ?_) fun _ _ h' => h')) fun _ _ h' => h')
    cases ok with
    | false => exact wpAny_pure ⟨rfl, h₃⟩
    | true =>
      refine wpAny_bind (wpAny_mono h₃ (fun x s₄ h₄ => ?_) fun _ _ h' => h')
      refine wpAny_bind (wpAny_standAt (wpAny_bind (wpAny_of_eq (hs x) (wpAny_bind (wpAny_holding (wpAny_mono h₄ (fun it1 s₅ h₅ => ?_) fun _ _ h' => h'))))))
      refine wpAny_bind (wpAny_runOwn ?_)
      rw [Around.mark_none]
      refine codeAny_mono h₅ fun r s' hr => ?_
      cases r with
      | ok f =>
        first
          | exact wpAny_pure ⟨rfl, hr⟩
          | exact wpAny_bind (wpAny_pure (wpAny_pure ⟨rfl, hr⟩))
      | error e => exact hr.elim
/-- the loop of the second -/
theorem compLoop2_inS (I : Nat → Shared → Prop)
    (turn : ∀ n s, I n s → wpAny (model prog w) A (pyNext it) (fun r s₁ => match r with
      | none => R (.ok .next) s₁
      | some v => wpAny (model prog w) A (letOwnedTupleGo t1 it v) (fun _ s₁' => wpAny (model prog w) A (assign t1 env v) (fun _ s₂ =>
          wpAny (model prog w) A (forIn ifs1 true fun c r => if r = true then do let ok ← isTrue c env (eval c env); pure (ForInStep.yield ok) else pure (ForInStep.yield r)) (fun ok s₃ =>
            if ok = true then wpAny (model prog w) A (eval elt env) (fun x s₄ =>
              wpAny (model prog w) A (call (.builtin "set.add") [acc, x]) (fun _ s₅ => ∃ m, m < n ∧ I m s₅) (notedBy (model prog w) A env fun e s' => R (.error e) s') s₄) (notedBy (model prog w) A env fun e s' => R (.error e) s') s₃
            else ∃ m, m < n ∧ I m s₃) (notedBy (model prog w) A env fun e s' => R (.error e) s') s₂) (notedBy (model prog w) A env fun e s' => R (.error e) s') s₁') (notedBy (model prog w) A env fun e s' => R (.error e) s') s₁) (notedBy (model prog w) A env fun e s' => R (.error e) s') s)
    (n : Nat) (h : I n s) :
    codeAny (model prog w) A (.compLoop (.SetComp elt [⟨t0, i0, ifs0, 0⟩, ⟨t1, i1, ifs1, 0⟩] scope pos) 1 it acc env) R s := by
  refine codeAny_loop rfl I (fun n s hI => ?_) n h
  show wpAny _ A ((compTurn (.SetComp elt [⟨t0, i0, ifs0, 0⟩, ⟨t1, i1, ifs1, 0⟩] scope pos) 1 it acc env).onRaise (fun x => do noteFrame x env; theTreesLotGoes x)) _ _ s
  refine wpAny_noted ?_
  rw [compTurn2_inS]
  refine wpAny_bind (wpAny_standAt (wpAny_bind (wpAny_mono (turn n s hI) (fun r s₁ h₁ => ?_) fun _ _ h' => h')))
  cases r with
  | none => exact wpAny_pure h₁
  | some v =>
    refine wpAny_bind (wpAny_mono h₁ (fun _ s₁' h₁' => ?_) fun _ _ h' => h')
    refine wpAny_bind (wpAny_mono h₁' (fun _ s₂ h₂ => wpAny_bind (wpAny_mono h₂ (fun ok s₃ h₃ => ?_) fun _ _ h' => h')) fun _ _ h' => h')
    cases ok with
    | false => exact wpAny_pure ⟨rfl, h₃⟩
    | true =>
      exact wpAny_bind (wpAny_bind (wpAny_mono h₃ (fun x s₄ h₄ => wpAny_bind (wpAny_standAt (wpAny_bind (wpAny_mono h₄ (fun _ s₅ h₅ => wpAny_pure (wpAny_pure ⟨rfl, h₅⟩)) fun _ _ h' => h')))) fun _ _ h' => h'))
/-- the second clause's start -/
theorem compStart1_okS (h0 : codeAny (model prog w) A (.compLoop (.SetComp elt [⟨t0, i0, ifs0, 0⟩, ⟨t1, i1, ifs1, 0⟩] scope pos) 1 it acc env) R s)
    (h : wpAny (model prog w) A (pyIter it) (fun it' s' => codeAny (model prog w) A (.compLoop (.SetComp elt [⟨t0, i0, ifs0, 0⟩, ⟨t1, i1, ifs1, 0⟩] scope pos) 1 it' acc env) R s')
      (notedBy (model prog w) A env fun x s' => R (.error x) s') s) :
    codeAny (model prog w) A (.compStart (.SetComp elt [⟨t0, i0, ifs0, 0⟩, ⟨t1, i1, ifs1, 0⟩] scope pos) 1 it acc env) R s := by
  refine codeAny_of_tree ?_
  show wpAny _ _ ((compStart (.SetComp elt [⟨t0, i0, ifs0, 0⟩, ⟨t1, i1, ifs1, 0⟩] scope pos) 1 it acc env).onRaise (fun x => do noteFrame x env; standAt theWindowsPlace)) _ _ s
  refine wpAny_notedAt ?_
  unfold compStart
  show wpAny _ _ (ask >>= _) _ _ s
  refine wpAny_bind (wpAny_askSetting (wpAny_ite ?_))
  split
  · first
      | exact wpAny_bind (wpAny_pure (wpAny_pure (And.intro rfl h0)))
      | exact wpAny_pure (And.intro rfl h0)
  · first
      | exact wpAny_bind (wpAny_rule (wpAny_bind (wpAny_standAt (wpAny_bind (wpAny_mono h (fun it' s' h' => wpAny_pure (And.intro rfl h')) fun _ _ x => x)))))
      | (refine wpAny_bind (wpAny_rule ?_); show wpAny _ _ (standAt i1.pos >>= _) _ _ s; exact wpAny_bind (wpAny_standAt (wpAny_bind (wpAny_mono h (fun it' s' h' => wpAny_pure (And.intro rfl h')) fun _ _ x => x))))
end

section
variable {X : Cx}
/-- [elt for tg in iter if .. for tg1 in iter1 if ..]: behind the first clause's store and tests the second source's own loop, from which Nx is reached. vs: the block's names; vs1: those of the second target -/
def tLc2S (w : World) (wi : TI) (g : TG) (tt : TT) (wi1 : TI) (g1 : TG) (tt1 : TT) (te : TE) (vs vs1 : List Nat) : TE := fun σ H Q => wi σ H fun J H1 => ∀ D, H1 D = none → ∃ W : Nat → Nat → Hp → Prop, (∃ m, W 0 m (upd H1 D (SetSO w D []))) ∧ ∀ i m H, W i m H →
  (J.stop i H ∧ Q (.ref D) H) ∨ (J.go i H ∧ ∃ Nx : Hp → Prop, (∀ H', Nx H' → ∃ m', m' < m ∧ W (i + 1) m' H') ∧ ∀ x H', J.yld i H x H' → g x (wipe σ vs) H' fun σ2 H2 => wipe σ2 vs = wipe σ vs ∧ tt σ2 H2 fun b H3 =>
    if b = true then wi1 σ2 H3 fun J1 H4 => ∃ W1 : Nat → Nat → Hp → Prop, (∃ m, W1 0 m H4) ∧ ∀ j k H, W1 j k H →
      (J1.stop j H ∧ Nx H) ∨ (J1.go j H ∧ ∃ Nx1 : Hp → Prop, (∀ H', Nx1 H' → ∃ k', k' < k ∧ W1 (j + 1) k' H') ∧ ∀ x H', J1.yld j H x H' → g1 x (wipe σ2 vs1) H' fun σ3 H5 => wipe σ3 vs1 = wipe σ2 vs1 ∧ tt1 σ3 H5 fun b H6 =>
        if b = true then te σ3 H6 fun y H7 => ∃ (x : Str) (L : List Str), y = .str x ∧ H7 D = some (SetSO w D L) ∧ L.length + 1 < scanBound ∧ Nx1 (upd H7 D (SetSO w D (addS L x))) else Nx1 H6)
    else Nx H3)
theorem lc2_coreS {pins : List (Addr × Obj)} {s : Shared} {σ : St} {H : Hp} {Q : VK} {elt tg iter tg1 iter1 : Expr} {ifs ifs1 : List Expr} {scope : Scope} {own : List (Str × Nat)} {vs1 : List Nat} {pos pos' : Pos} {wi wi1 : TI} {g g1 : TG} {tt tt1 : TT} {te : TE} {use : Option (Value → Sem Unit)} {Qf : Value → Shared → Prop}
    (hc : X.calm = true) (hN : X.N.Nodup) (I : Inv X pins σ H s) (hi : PI X tg iter wi) (ok : BlkOk X.N X.env.scope scope own) (hv : ∀ i ∈ vs1, i ∈ own.map (·.2))
    (hg : ∀ (s : Shared) (H : Hp) (C : Addr) (cl : List (Str × Addr)) (fp : List Addr), PG (X.blk s H scope (compEnvC scope cl C X.env) fp) tg g) (ht : ∀ (s : Shared) (H : Hp) (C : Addr) (cl : List (Str × Addr)) (fp : List Addr), PTs (X.blk s H scope (compEnvC scope cl C X.env) fp) ifs tt)
    (he : ∀ (s : Shared) (H : Hp) (C : Addr) (cl : List (Str × Addr)) (fp : List Addr), PE (X.blk s H scope (compEnvC scope cl C X.env) fp) elt te) (hs : ∀ x, foldedSetIterable iter X.env x = pure x)
    (hi1 : ∀ (s : Shared) (H : Hp) (C : Addr) (cl : List (Str × Addr)) (fp : List Addr), PI (X.blk s H scope (compEnvC scope cl C X.env) fp) tg1 iter1 wi1)
    (hg1 : ∀ (s : Shared) (H : Hp) (C : Addr) (cl : List (Str × Addr)) (fp : List Addr), PG (X.blk s H scope (compEnvC scope cl C X.env) fp) tg1 g1)
    (ht1 : ∀ (s : Shared) (H : Hp) (C : Addr) (cl : List (Str × Addr)) (fp : List Addr), PTs (X.blk s H scope (compEnvC scope cl C X.env) fp) ifs1 tt1)
    (hs1 : ∀ env x, foldedSetIterable iter1 env x = pure x)
    (h : tLc2S X.w wi g tt wi1 g1 tt1 te (own.map (·.2)) vs1 σ H Q)
    (hRR : ∀ D C s' m H', Inv X pins σ H' s' → Q (.ref D) H' → s'.heap.Ns C m → FpOk X pins H' C → compPost (model X.prog X.w) X.A X.xe use Qf (.ref D) C (.ok .next) s') :
    wpAny (model X.prog X.w) X.A (comprehension (.SetComp elt [⟨tg, iter, ifs, 0⟩, ⟨tg1, iter1, ifs1, 0⟩] scope pos) scope X.env pos' (newSet (.type "set")) false (eval iter X.env) use) Qf X.xe s := by
  have hfree : ∀ y ∈ scope.names, y.2 = .free → ∃ c, X.env.cells.lookup y.1 = some c := fun y hy e => by
    rcases ok.free y hy e with k | k
    · exact I.ok.has _ (.inl k)
    · exact I.ok.has _ (.inr k)
  refine wpAny_comprehension_free (use := use) rfl hs (closure_ok hfree) ok.kind (fun y hy e => by rw [ok.uniq y hy, e])
    (thn (hi.run pins s σ H _ I h) fun xv s1 hx => thn hx fun itv s2 h2 => ?_)
  obtain ⟨it, fp, tn, J, H2, e, I2, T, st2, f2, q⟩ := h2
  subst e
  refine PpSet.newSet_ok (newEnv_comp ?_)
  generalize hD : s2.heap.objs.size = D
  have hDn : H2 D = none := I2.hok.fresh (Nat.le_of_eq hD)
  obtain ⟨W, ⟨m0, w0⟩, turn⟩ := q D hDn
  -- the new list
  generalize hs3 : ({ s2 with heap := s2.heap.push (noneSet X.w) } : Shared) = s3
  have I3 : Inv X pins σ (upd H2 D (SetSO X.w D [])) s3 := by
    rw [← hs3]
    refine I2.laid (t' := s2.toks) (fun b o e => Heap.get?_push_of_some _ e) (Nat.le_of_eq hD) ?_
    rw [← hD]
    exact setSO_new (freshS (Heap.get?_push_size _ rfl))
  have h3 : s3.heap = s2.heap.push (noneSet X.w) := by rw [← hs3]
  have sz : ∀ b ∈ fp, b < s2.heap.objs.size := fun b hb => by
    obtain ⟨o, e, _⟩ := T.obj _ _ st2 b hb
    exact Heap.lt_size e
  have f3 : ∀ b ∈ fp, FpOk X pins (upd H2 D (SetSO X.w D [])) b ∧ b < s3.heap.objs.size := fun b hb => by
    have hlt := sz b hb
    refine ⟨⟨?_, (f2 b hb).2⟩, by rw [h3, Heap.size_push]; exact Nat.lt_succ_of_lt hlt⟩
    rw [upd_ne (by rw [← hD]; exact Nat.ne_of_lt hlt)]
    exact (f2 b hb).1
  have st3 : tn 0 s3.heap := T.keep _ _ _ st2 fun b _ o e => by rw [h3]; exact Heap.get?_push_of_some _ e
  have I4 := block_start I3 ok hN f3
  have pg := hg s3 (upd H2 D (SetSO X.w D [])) s3.heap.objs.size (cellsFrom (s3.heap.objs.size + 1) scope.names (cloFrom X.env.cells scope.names [])) fp
  have pt := ht s3 (upd H2 D (SetSO X.w D [])) s3.heap.objs.size (cellsFrom (s3.heap.objs.size + 1) scope.names (cloFrom X.env.cells scope.names [])) fp
  have pe := he s3 (upd H2 D (SetSO X.w D [])) s3.heap.objs.size (cellsFrom (s3.heap.objs.size + 1) scope.names (cloFrom X.env.cells scope.names [])) fp
  have pi1 := hi1 s3 (upd H2 D (SetSO X.w D [])) s3.heap.objs.size (cellsFrom (s3.heap.objs.size + 1) scope.names (cloFrom X.env.cells scope.names [])) fp
  have pg1 := hg1 s3 (upd H2 D (SetSO X.w D [])) s3.heap.objs.size (cellsFrom (s3.heap.objs.size + 1) scope.names (cloFrom X.env.cells scope.names [])) fp
  have pt1 := ht1 s3 (upd H2 D (SetSO X.w D [])) s3.heap.objs.size (cellsFrom (s3.heap.objs.size + 1) scope.names (cloFrom X.env.cells scope.names [])) fp
  show codeAny _ _ (.compStart (.SetComp elt [⟨tg, iter, ifs, 0⟩, ⟨tg1, iter1, ifs1, 0⟩] scope pos) 0 (.ref it) (.ref D) (compEnvC scope (cellsFrom (s3.heap.objs.size + 1) scope.names (cloFrom X.env.cells scope.names [])) s3.heap.objs.size X.env)) (compPost (model X.prog X.w) X.A X.xe use Qf (.ref D) s3.heap.objs.size) { s3 with heap := pushCells (s3.heap.push { cls := .type "dict", data := .dict #[] }) scope.names }
  have nfp : ∀ b ∈ fp, (upd H2 D (SetSO X.w D [])) b = none := fun b hb => (f3 b hb).1.1
  generalize hce : compEnvC scope (cellsFrom (s3.heap.objs.size + 1) scope.names (cloFrom X.env.cells scope.names [])) s3.heap.objs.size X.env = ce at I4 pg pt pe pi1 pg1 pt1 ⊢
  have cL : ce.locals = s3.heap.objs.size := by subst hce; rfl
  generalize hH3 : upd H2 D (SetSO X.w D []) = H3 at I3 I4 pg pt pe pi1 pg1 pt1 w0 nfp f3
  generalize hs4 : ({ s3 with heap := pushCells (s3.heap.push { cls := .type "dict", data := .dict #[] }) scope.names } : Shared) = s4 at I4 ⊢
  have st4 : tn 0 s4.heap := T.keep _ _ _ st3 fun b _ o e => by rw [← hs4]; exact pushCells_keeps _ _ _ _ (Heap.get?_push_of_some _ e)
  have stat : ∀ {σ' : St} {H' : Hp} {s' : Shared}, Inv (X.blk s3 H3 scope ce fp) [] σ' H' s' → (∀ b ∈ fp, H' b = none) → ∀ b ∈ fp, FpOk (X.blk s3 H3 scope ce fp) [] H' b := fun {σ' H' s'} I' hn b hb =>
    ⟨hn b hb, (I'.ok.exf b hb).1, I'.ok.exfs b hb, .inl hb, fun x c e => (I'.ok.exf b hb).2 x c e, fun p hp => absurd (show p ∈ ([] : List (Addr × Obj)) ++ [] from hp) (by simp)⟩
  have loop : codeAny (model X.prog X.w) X.A (.compLoop (.SetComp elt [⟨tg, iter, ifs, 0⟩, ⟨tg1, iter1, ifs1, 0⟩] scope pos) 0 (.ref it) (.ref D) ce) (compPost (model X.prog X.w) X.A X.xe use Qf (.ref D) s3.heap.objs.size) s4 := by
    refine compLoop2_outS (hs1 ce) (fun n s' => ∃ i H', Inv (X.blk s3 H3 scope ce fp) [] (wipe σ (own.map (·.2))) H' s' ∧ tn i s'.heap ∧ (∀ b ∈ fp, H' b = none) ∧ W i n H') ?_ m0 ⟨0, H3, I4, st4, nfp, w0⟩
    rintro n s5 ⟨i, H5, I5, st5, n5, w5⟩
    rcases turn i n H5 w5 with ⟨stop, qq⟩ | ⟨go, Nx, hNx, step⟩
    · have td := T.done (X.blk s3 H3 scope ce fp) rfl rfl rfl hc i [] s5 _ H5 (fun _ _ => False) I5 (stat I5 n5) st5 stop
      refine thnF td fun r s6 ⟨hr, I6⟩ => ?_
      subst hr
      -- back in the def's context
      have I7 : Inv X pins σ H5 s6 := I3.call' (ch := fp) I6.os I6.base I6.hok I6.bare fun b hb => ⟨(f3 b hb).1.2.2.2.1, (f3 b hb).1.2.1, (f3 b hb).1.2.2.2.2.1, (f3 b hb).1.2.2.2.2.2⟩
      have nC : H5 s3.heap.objs.size = none := by
        have z : H5 ce.locals = none := I6.free
        rw [cL] at z
        exact z
      obtain ⟨m, hn, _⟩ := I6.loc
      have hn : s6.heap.Ns ce.locals m := hn
      rw [cL] at hn
      exact hRR D s3.heap.objs.size s6 m H5 I7 qq hn (I3.fpOk (Nat.le_refl _) nC)
    · have ti := T.item (X.blk s3 H3 scope ce fp) rfl rfl rfl hc i [] s5 _ H5 (fun _ _ => False) I5 (stat I5 n5) st5 go
      refine thnF ti fun r s6 ⟨u, hr, h6⟩ => ?_
      subst hr
      refine thnF h6 fun _ s7 ⟨x, H7, I7, r7, y7, st7, n7⟩ => ?_
      have I7' := I7.pinned (stat I7 n7) (T.obj _ _ st7)
      refine thnF (pg.run _ s7 _ H7 x u _ I7' r7 (step x H7 y7)) fun _ s8 ⟨σ8, H8, I8, hw8, q8⟩ => ?_
      refine thnF (pt.run _ s8 σ8 H8 _ I8 q8) fun b s9 ⟨H9, I9, q9⟩ => ?_
      -- the turn's end, from any slots that know what the block knew at its start
      have fin : ∀ {σ9 : St} {s' : Shared} {H' : Hp}, Inv (X.blk s3 H3 scope ce fp) ([] ++ pinsAt fp s7.heap) σ9 H' s' → (wipe σ (own.map (·.2))).length = σ9.length → (∀ (j : Nat) v, (wipe σ (own.map (·.2)))[j]? = some (some v) → σ9[j]? = some (some v)) → Nx H' →
          ∃ m, m < n ∧ ∃ i H', Inv (X.blk s3 H3 scope ce fp) [] (wipe σ (own.map (·.2))) H' s' ∧ tn i s'.heap ∧ (∀ b ∈ fp, H' b = none) ∧ W i m H' := fun {σ9 s' H'} I' hl hk nx => by
        obtain ⟨m', hm, w'⟩ := hNx H' nx
        have pin' : ∀ b ∈ fp, ∀ o, s7.heap.get? b = some o → s'.heap.get? b = some o ∧ H' b = none := fun b hb o e =>
          let z := I'.pin (b, o) (List.mem_append_right _ (List.mem_append_right _ (mem_pinsAt hb e)))
          ⟨z.1, z.2.1⟩
        refine ⟨m', hm, i + 1, H', (I'.unpinned (pins := [])).weak hl hk, T.keep _ _ _ st7 fun b hb o e => (pin' b hb o e).1, fun b hb => ?_, w'⟩
        obtain ⟨o, e, _⟩ := T.obj _ _ st7 b hb
        exact (pin' b hb o e).2
      have hl8 : (wipe σ (own.map (·.2))).length = σ8.length := by rw [← hw8, wipe_length]
      have hk8 : ∀ (j : Nat) v, (wipe σ (own.map (·.2)))[j]? = some (some v) → σ8[j]? = some (some v) := fun j v e => by
        rw [← hw8] at e
        exact (wipe_some e).1
      have hk9 : ∀ (j : Nat) v, (wipe σ (own.map (·.2)))[j]? = some (some v) → (wipe σ8 vs1)[j]? = some (some v) := fun j v e => by
        rw [← hw8] at e
        obtain ⟨e1, e2⟩ := wipe_some e
        rw [wipe_out fun z => e2 (hv j z)]
        exact e1
      cases b with
      | false =>
        simp only [Bool.false_eq_true, if_false] at q9 ⊢
        exact fin I9 hl8 hk8 q9
      | true =>
        simp only [if_true] at q9 ⊢
        refine thnF (pi1.run _ s9 σ8 H9 _ I9 q9) fun xv s10 hx => thnF hx fun itv s11 h11 => ?_
        obtain ⟨it1, fp1, tn1, J1, H11, e1, I11, T1, st11, f11, W1, ⟨m1, w1⟩, turn1⟩ := h11
        subst e1
        -- the inner loop
        have stat1 : ∀ {H' : Hp}, (∀ b ∈ fp1, H' b = none) → ∀ b ∈ fp1, FpOk (X.blk s3 H3 scope ce fp) ([] ++ pinsAt fp s7.heap) H' b := fun hn b hb => ⟨hn b hb, (f11 b hb).2⟩
        have loop1 : codeAny (model X.prog X.w) X.A (.compLoop (.SetComp elt [⟨tg, iter, ifs, 0⟩, ⟨tg1, iter1, ifs1, 0⟩] scope pos) 1 (.ref it1) (.ref D) ce)
            (fun r s' => match r with
              | .ok _ => ∃ m, m < n ∧ ∃ i H', Inv (X.blk s3 H3 scope ce fp) [] (wipe σ (own.map (·.2))) H' s' ∧ tn i s'.heap ∧ (∀ b ∈ fp, H' b = none) ∧ W i m H'
              | .error _ => False) s11 := by
          refine compLoop2_inS (fun k s' => ∃ j H', Inv (X.blk s3 H3 scope ce fp) ([] ++ pinsAt fp s7.heap) (wipe σ8 vs1) H' s' ∧ tn1 j s'.heap ∧ (∀ b ∈ fp1, H' b = none) ∧ W1 j k H') ?_ m1 ⟨0, H11, I11.weak (wipe_length _ _) (fun j v e => (wipe_some e).1), st11, fun b hb => (f11 b hb).1, w1⟩
          rintro k s12 ⟨j, H12, I12, st12, n12, w12⟩
          rcases turn1 j k H12 w12 with ⟨stop1, nx1⟩ | ⟨go1, Nx1, hNx1, step1⟩
          · refine thnF (T1.done (X.blk s3 H3 scope ce fp) rfl rfl rfl hc j _ s12 (wipe σ8 vs1) H12 (fun _ _ => False) I12 (stat1 n12) st12 stop1) fun r s13 ⟨hr, I13⟩ => ?_
            subst hr
            exact fin I13 (hl8.trans (wipe_length σ8 vs1).symm) hk9 nx1
          · refine thnF (T1.item (X.blk s3 H3 scope ce fp) rfl rfl rfl hc j _ s12 (wipe σ8 vs1) H12 (fun _ _ => False) I12 (stat1 n12) st12 go1) fun r s13 ⟨u1, hr, h13⟩ => ?_
            subst hr
            refine thnF h13 fun _ s14 ⟨x1, H14, I14, r14, y14, st14, n14⟩ => ?_
            have I14' := I14.pinned (stat1 n14) (T1.obj _ _ st14)
            refine thnF (pg1.run _ s14 (wipe σ8 vs1) H14 x1 u1 _ I14' r14 (step1 x1 H14 y14)) fun _ s15 ⟨σ15, H15, I15, hw15, q15⟩ => ?_
            refine thnF (pt1.run _ s15 σ15 H15 _ I15 q15) fun b1 s16 ⟨H16, I16, q16⟩ => ?_
            have fin1 : ∀ {s' : Shared} {H' : Hp}, Inv (X.blk s3 H3 scope ce fp) (([] ++ pinsAt fp s7.heap) ++ pinsAt fp1 s14.heap) σ15 H' s' → Nx1 H' → ∃ m, m < k ∧ ∃ j H', Inv (X.blk s3 H3 scope ce fp) ([] ++ pinsAt fp s7.heap) (wipe σ8 vs1) H' s' ∧ tn1 j s'.heap ∧ (∀ b ∈ fp1, H' b = none) ∧ W1 j m H' := fun {s' H'} I' nx => by
              obtain ⟨m', hm, w'⟩ := hNx1 H' nx
              have pin' : ∀ b ∈ fp1, ∀ o, s14.heap.get? b = some o → s'.heap.get? b = some o ∧ H' b = none := fun b hb o e =>
                let z := I'.pin (b, o) (List.mem_append_right _ (List.mem_append_right _ (mem_pinsAt hb e)))
                ⟨z.1, z.2.1⟩
              refine ⟨m', hm, j + 1, H', I'.unpinned.weak (by rw [← hw15, wipe_length]) (fun j v e => by rw [← hw15] at e; exact (wipe_some e).1), T1.keep _ _ _ st14 fun b hb o e => (pin' b hb o e).1, fun b hb => ?_, w'⟩
              obtain ⟨o, e, _⟩ := T1.obj _ _ st14 b hb
              exact (pin' b hb o e).2
            cases b1 with
            | false =>
              simp only [Bool.false_eq_true, if_false] at q16 ⊢
              exact fin1 I16 q16
            | true =>
              simp only [if_true] at q16 ⊢
              refine thnF (pe.run _ s16 σ15 H16 _ I16 q16) fun z s17 ⟨yv, H17, I17, r17, xs, L, ey, hD17, hz17, nx⟩ => ?_
              subst ey
              obtain ⟨tk, rfl⟩ := r17
              exact addS_ok (X := X.blk s3 H3 scope ce fp) I17 hD17 hz17 fun s18 I18 => fin1 I18 nx
        exact compStart1_okS loop1 (T1.self X.A 0 _ _ _ st11 loop1)
  exact PpSet.codeAny_compStart_set loop (T.self X.A 0 _ _ _ st4 loop)

end
end L2.K9R
end
section
set_option Elab.async false
set_option linter.all false
set_option maxRecDepth 100000
set_option maxHeartbeats 4000000
/-! rules of the layer, the written part K told from outside; names for their readings -/
namespace L2.K9R
open PySem PySem.Spec PyProof.Rows L2
section
variable {X : Cx} {K : PySem.W.Frag}
def rLenK (K : PySem.W.Frag) : List V → Hp → VK → Prop := fun xs H Q => ∃ x n, xs = [x] ∧ LenV K x H n ∧ Q (.int n) H
theorem call_lenK (h : X.K = K) : CallR X (.builtin "len") (rLenK K) := by subst h; exact call_len
def rListOf (K : PySem.W.Frag) : List V → Hp → VK → Prop := fun xs H Q => ∃ p ys, xs = [.ref p] ∧ (SqL K H p ys ∨ SqT K H p ys) ∧ ∀ l, H l = none → Q (.ref l) (upd H l (.lst ys))
theorem call_list_ofK (h : X.K = K) : CallR X (.type "list") (rListOf K) := by subst h; exact call_list_of
def rTupOf (K : PySem.W.Frag) : List V → Hp → VK → Prop := fun xs H Q => ∃ p ys, xs = [.ref p] ∧ ((SqL K H p ys ∧ ∀ l, H l = none → Q (.ref l) (upd H l (.tup ys))) ∨ (SqT K H p ys ∧ Q (.ref p) H))
theorem call_tuple_ofK (h : X.K = K) : CallR X (.type "tuple") (rTupOf K) := by subst h; exact call_tuple_of
theorem ix_listK (h : X.K = K) : IxR X (rIxL K) := by subst h; exact ix_list
theorem ix_tupK (h : X.K = K) : IxR X (rIxT K) := by subst h; exact ix_tup
theorem ix_seqK (h : X.K = K) : IxR X (rIx K) := by subst h; exact ix_seq
theorem sl_listK (h : X.K = K) : SlR X (rSlL K) := by subst h; exact sl_list
theorem op_in_seqK (h : X.K = K) : OpR X (compareOp .In) (rIn K false) := by subst h; exact op_in_seq
theorem op_inDK (hu : X.A.units + 65 < cLine) (h : X.K = K) : OpR X (compareOp .In) (rInD K) := by subst h; exact op_inD hu
theorem op_notInDK (hu : X.A.units + 65 < cLine) (h : X.K = K) : OpR X (compareOp .NotIn) (rNotInD K) := by subst h; exact op_notInD hu
theorem op_eqDK (hu : X.A.units + 64 < cLine) (h : X.K = K) : OpR X (compareOp .Eq) (rEqD K) := by subst h; exact op_eqD hu
theorem op_neDK (hu : X.A.units + 64 < cLine) (h : X.K = K) : OpR X (compareOp .NotEq) (rNeD K) := by subst h; exact op_neD hu
theorem cr_allK (hc : X.calm = true) (h : X.K = K) : CallR X (.builtin "all") (rAll K) := by subst h; exact cr_all hc
theorem cr_sumK (hc : X.calm = true) (h : X.K = K) : CallR X (.builtin "sum") (rSum K) := by subst h; exact cr_sum hc
theorem call_isiK (h : X.K = K) : CallR X (.builtin "isinstance") (rIsi K) := by subst h; exact call_isi
theorem call_isiTK (h : X.K = K) : CallR X (.builtin "isinstance") (rIsiT K) := by subst h; exact call_isiT
theorem pi_listK {tg l : Expr} {tl : TE} (h : X.K = K) (hl : PE X l tl) : PI X tg l (iList K tl) := by subst h; exact pi_list hl
theorem pi_tupK {tg l : Expr} {tl : TE} (h : X.K = K) (hl : PE X l tl) : PI X tg l (iTup K tl) := by subst h; exact pi_tup hl
theorem pi_seqK {tg l : Expr} {tl : TE} (h : X.K = K) (hl : PE X l tl) : PI X tg l (iSeq K tl) := by subst h; exact pi_seq hl
theorem pg_tupK {es : List Expr} {k : Nat} {t : TGs} {n : Nat} {pos : Pos} (h : X.K = K) (hc : X.calm = true) (hg : PGs X es t)
    (hn : (assignEach es X.env).length = n := by rfl) (hst : (assignEach es X.env).findIdx? (·.1) = none := by rfl) : PG X (.Tuple es k pos) (gTup K n t) := by subst h; exact pg_tup hc hg hn hst
theorem pg_unlK {es : List Expr} {k : Nat} {t : TGs} {n : Nat} {pos : Pos} (h : X.K = K) (hc : X.calm = true) (hg : PGs X es t)
    (hn : (assignEach es X.env).length = n := by rfl) (hst : (assignEach es X.env).findIdx? (·.1) = none := by rfl) : PG X (.Tuple es k pos) (gUnl K n t) := by subst h; exact pg_unl hc hg hn hst
def rCatS : R2 := fun x y H Q => ∃ i j, x = .str i ∧ y = .str j ∧ i.length + j.length ≤ sizeLine ∧ Q (.str (i ++ j)) H
theorem op_catS : OpR X (binaryOp .Add) rCatS := op_add_str
def rInSg : R2 := fun x y H Q => ∃ (c : Nat) (z : Str), x = .str ⟨#[c]⟩ ∧ y = .str z ∧ Q (.bl (decide (c ∈ z.cps.toList))) H
theorem op_inSg : OpR X (compareOp .In) rInSg := op_in_sign
def rIsNo : R2 := fun x y H Q => y = .non ∧ Q (.bl (decide (x = .non))) H
def rNotNo : R2 := fun x y H Q => y = .non ∧ Q (.bl (!decide (x = .non))) H
theorem op_isNo : OpR X (compareOp .Is) rIsNo := op_isN
theorem op_notNo : OpR X (compareOp .IsNot) rNotNo := op_notN
def rAbs : List V → Hp → VK → Prop := fun xs H Q => ∃ i, xs = [.int i] ∧ Q (.int (if i < 0 then -i else i)) H
theorem call_absK : CallR X (.builtin "abs") rAbs := call_abs
def rInt1 : List V → Hp → VK → Prop := fun xs H Q => (∃ i, xs = [.int i] ∧ Q (.int i) H) ∨ ∃ k, xs = [.bl k] ∧ Q (.int (if k then 1 else 0)) H
theorem call_intK : CallR X (.type "int") rInt1 := call_int1
def rIsC (C : Addr) : List V → Hp → VK → Prop := fun xs H Q => ∃ a dx fs, xs = [.ref a, .ref C] ∧ H a = some (.ins C dx fs) ∧ Q (.bl true) H
theorem call_isCK {C : Addr} (c : C8.InsC X.K C) : CallR X (.builtin "isinstance") (rIsC C) := C8.call_isC c
def rListT : List V → Hp → VK → Prop := fun xs H Q => ∃ d kvs, xs = [V.ref d] ∧ Rd H d (.dT kvs) ∧ ∀ p bs, H p = none → IsKeys H kvs bs → Q (.ref p) (upd H p (.lst (bs.map V.ref)))
theorem call_listT (hc : X.calm = true) : CallR X (.type "list") rListT := call_list_dT hc
def rListK : List V → Hp → VK → Prop := fun xs H Q => ∃ (a : Addr) (kvs : List (Key × V)), xs = [.ref a] ∧ Rd H a (.dK kvs) ∧ ∀ p, H p = none → Q (.ref p) (upd H p (.lst (kvs.map fun kv => kV kv.1)))
theorem call_listKK (hc : X.calm = true) : CallR X (.type "list") rListK := call_listD hc
def rLenDK : List V → Hp → VK → Prop := fun xs H Q => ∃ a kvs, xs = [V.ref a] ∧ H a = some (.dK kvs) ∧ Q (.int kvs.length) H
theorem call_lenDK : CallR X (.builtin "len") rLenDK := call_lenD
def rInsert : V → List V → Hp → VK → Prop := fun x vs H Q => ∃ (l : Addr) (xs : List V) (i : Int) (y : V), x = .ref l ∧ vs = [.int i, y] ∧ H l = some (.lst xs) ∧ xs.length < sizeLine ∧ 0 ≤ i ∧ i < 2 ^ 63 ∧
    Q .non (upd H l (.lst (xs.take i.toNat ++ [y] ++ xs.drop i.toNat)))
theorem mt_insertK : MtR X "list.insert" rInsert := mt_insert
def rJoin (K : PySem.W.Frag) : V → List V → Hp → VK → Prop := fun x xs H Q => ∃ a p, ∃ ys : List Str, x = .str a ∧ xs = [.ref p] ∧ (SqL K H p (ys.map V.str) ∨ SqT K H p (ys.map V.str)) ∧
      (ys.map (·.length)).sum + ys.length * a.length ≤ 16777216 ∧ Q (.str (Txt.join a ys)) H
theorem pe_joinK {o e : Expr} {to te : TE} {apos pos : Pos} (ho : PE X o to) (he : PE X e te) (hs : starEach [e] X.env = [(false, eval e X.env)] := by rfl) (hbase : attributeBase o "join" X.env (eval o X.env) = eval o X.env := by rfl) (hline : (apos.endLine == pos.line) = true := by rfl) :
    PE X (.Call (.Attribute o "join" apos) [e] [] pos) (tM1 (rJoin X.K) to te) := pe_join ho he hs hbase hline
/-- {e for x in xs for y in ys}, the items texts -/
theorem pe_lc2S {elt tg iter tg1 iter1 : Expr} {ifs ifs1 : List Expr} {scope : Scope} {own : List (Str × Nat)} {vs1 : List Nat} {pos : Pos} {wi wi1 : TI} {g g1 : TG} {tt tt1 : TT} {te : TE} (hc : X.calm = true) (hN : X.N.Nodup) (hi : PI X tg iter wi) (ok : BlkOk X.N X.env.scope scope own) (hv : ∀ i ∈ vs1, i ∈ own.map (·.2))
    (hg : ∀ (s : Shared) (H : Hp) (C : Addr) (cl : List (Str × Addr)) (fp : List Addr), PG (X.blk s H scope (compEnvC scope cl C X.env) fp) tg g) (ht : ∀ (s : Shared) (H : Hp) (C : Addr) (cl : List (Str × Addr)) (fp : List Addr), PTs (X.blk s H scope (compEnvC scope cl C X.env) fp) ifs tt)
    (hi1 : ∀ (s : Shared) (H : Hp) (C : Addr) (cl : List (Str × Addr)) (fp : List Addr), PI (X.blk s H scope (compEnvC scope cl C X.env) fp) tg1 iter1 wi1)
    (hg1 : ∀ (s : Shared) (H : Hp) (C : Addr) (cl : List (Str × Addr)) (fp : List Addr), PG (X.blk s H scope (compEnvC scope cl C X.env) fp) tg1 g1) (ht1 : ∀ (s : Shared) (H : Hp) (C : Addr) (cl : List (Str × Addr)) (fp : List Addr), PTs (X.blk s H scope (compEnvC scope cl C X.env) fp) ifs1 tt1)
    (he : ∀ (s : Shared) (H : Hp) (C : Addr) (cl : List (Str × Addr)) (fp : List Addr), PE (X.blk s H scope (compEnvC scope cl C X.env) fp) elt te) (hs : ∀ x, foldedSetIterable iter X.env x = pure x := by intro _; rfl) (hs1 : ∀ env x, foldedSetIterable iter1 env x = pure x := by intro _ _; rfl) :
    PE X (.SetComp elt [⟨tg, iter, ifs, 0⟩, ⟨tg1, iter1, ifs1, 0⟩] scope pos) (tLc2S X.w wi g tt wi1 g1 tt1 te (own.map (·.2)) vs1) := by
  refine ⟨fun pins s σ H Q I h => ?_⟩
  rw [arm_eval_SetComp]
  refine lc2_coreS hc hN I hi ok hv hg ht he hs hi1 hg1 ht1 hs1 h fun D C s' m H' I' q hn f => ⟨m, hn, fun h'' sb => ?_⟩
  obtain ⟨f0, f1, f2, f3, f4, f5⟩ := f
  exact ⟨.ref D, H', I'.turned (t' := s'.toks) (fun b o hb e => (sb.2 b hb).trans e) f0 f1 f3 f4 f5, rfl, q⟩
end
end L2.K9R
end
section
set_option Elab.async false
set_option linter.all false
set_option maxRecDepth 100000
set_option maxHeartbeats 2000000
namespace L2.K9A
open PySem PySem.Spec PyProof.Rows L2 L2.K9R
section
variable {b : Option Addr} {S : List Addr} {hs : Hs} {es : Es} {σ : St} {H H1 H' : Hp} {ta tb tc te : TE} {tt tu : TT} {tar : TA} {R Ra Rb Rc : Rep} {K : PySem.W.Frag} {h : HRep}
/-- what holds of the places that change -/
abbrev HotOk (b : Option Addr) (S : List Addr) (hs : Hs) (H : Hp) : Prop := ∀ x ∈ hs, x.1 ∈ S ∧ b ≠ some x.1 ∧ ∃ o, H x.1 = some o ∧ x.2.P o (msk S H)
/-! ### operations by values -/
def RV2 (b : Option Addr) (hs : Hs) (r : R2) (Ra Rb R : Rep) : Prop := ∀ (S : List Addr) (H : Hp) (x y : V), HpOk b S H → HotOk b S hs H → Ra.P x (msk S H) → Rb.P y (msk S H) → ∀ Q : VK, (∀ v H', Fr b S H H' → R.P v (msk S H') → Q v H') → r x y H Q
theorem ev_opV {r : R2} (ha : EV b hs es ta Ra) (hb : EV b hs es tb Rb) (hr : RV2 b hs r Ra Rb R) : EV b hs es (tOp r ta tb) R := fun S σ H s Q q =>
  ha S σ H s _ fun x H1 f1 r1 => hb S σ H1 (s.mono f1) _ fun y H2 f2 r2 => hr S H2 x y f2.ok ((s.mono f1).mono f2).ht (Ra.up f2.dat r1) r2 Q fun v H3 f3 r3 => q v H3 ((f1.trans f2).trans f3) r3
theorem rv_I0 {g : Int → Int → V} {i j : Int} : RV2 b hs (rI0 g) (rInt i) (rInt j) (rC (g i j)) := fun S H x y k _ e1 e2 Q q => ⟨i, j, e1, e2, q _ H (Fr.refl k) rfl⟩
theorem rv_I {C : Int → Int → Prop} {g : Int → Int → V} {i j : Int} (hc : C i j) : RV2 b hs (rI C g) (rInt i) (rInt j) (rC (g i j)) := fun S H x y k _ e1 e2 Q q => ⟨i, j, e1, e2, hc, q _ H (Fr.refl k) rfl⟩
theorem rv_eq {x y : V} (h : scal x y = true) : RV2 b hs rEq (rC x) (rC y) (rBl (decide (x = y))) := fun S H u v k _ e1 e2 Q q => by
  rw [show u = x from e1, show v = y from e2]
  exact ⟨h, q _ H (Fr.refl k) rfl⟩
theorem rv_ne {x y : V} (h : scal x y = true) : RV2 b hs rNe (rC x) (rC y) (rBl (!decide (x = y))) := fun S H u v k _ e1 e2 Q q => by
  rw [show u = x from e1, show v = y from e2]
  exact ⟨h, q _ H (Fr.refl k) rfl⟩
/-- an operand that is one of several -/
theorem rv_exR {α : Type} {r : R2} {P : α → Prop} {f : α → Rep} (h : ∀ x, P x → RV2 b hs r Ra (f x) R) : RV2 b hs r Ra (rEx P f) R := fun S H x y k ho e1 e2 Q q => by
  obtain ⟨z, pz, e2⟩ := e2
  exact h z pz S H x y k ho e1 e2 Q q
theorem rv_exL {α : Type} {r : R2} {P : α → Prop} {f : α → Rep} (h : ∀ x, P x → RV2 b hs r (f x) Rb R) : RV2 b hs r (rEx P f) Rb R := fun S H x y k ho e1 e2 Q q => by
  obtain ⟨z, pz, e1⟩ := e1
  exact h z pz S H x y k ho e1 e2 Q q
theorem rv_up {r : R2} {R' : Rep} (h : RV2 b hs r Ra Rb R) (k : ∀ v M, R.P v M → R'.P v M) : RV2 b hs r Ra Rb R' := fun S H x y k1 ho e1 e2 Q q => h S H x y k1 ho e1 e2 Q fun v H' f r1 => q v H' f (k _ _ r1)
theorem sq_of {H : Hp} {a : Addr} {xs : List V} (h : H a = some (.lst xs)) : SqL K H a xs := Or.inl (Or.inl h)
theorem st_of {H : Hp} {a : Addr} {xs : List V} (h : H a = some (.tup xs)) : SqT K H a xs := Or.inl (Or.inl h)
theorem rL_at {rs : List Rep} {v : V} (h : (rL rs).P v (msk S H)) : ∃ a vs, v = .ref a ∧ H a = some (.lst vs) ∧ a ∉ S ∧ All2 rs vs (msk S H) := by
  obtain ⟨a, o, e, ho, vs, eo, al⟩ := h
  subst eo
  refine ⟨a, vs, e, msk_same _ _ ho, fun q => ?_, al⟩
  unfold msk at ho
  rw [if_pos q] at ho
  cases ho
theorem rT_at {rs : List Rep} {v : V} (h : (rT rs).P v (msk S H)) : ∃ a vs, v = .ref a ∧ H a = some (.tup vs) ∧ a ∉ S ∧ All2 rs vs (msk S H) := by
  obtain ⟨a, vs, e, ho, al⟩ := h
  refine ⟨a, vs, e, msk_same _ _ ho, fun q => ?_, al⟩
  unfold msk at ho
  rw [if_pos q] at ho
  cases ho
theorem rDT_at {ks : List (List Key)} {f : List Key → Rep} {v : V} (h : (rDT ks f).P v (msk S H)) : ∃ a kvs, v = .ref a ∧ H a = some (.dT kvs) ∧ a ∉ S ∧ kvs.map Prod.fst = ks ∧ ∀ k v, (k, v) ∈ kvs → (f k).P v (msk S H) := by
  obtain ⟨a, o, e, ho, kvs, eo, al⟩ := h
  subst eo
  refine ⟨a, kvs, e, msk_same _ _ ho, fun q => ?_, al⟩
  unfold msk at ho
  rw [if_pos q] at ho
  cases ho
theorem rDK_at {ks : List Key} {f : Key → Rep} {v : V} (h : (rDK ks f).P v (msk S H)) : ∃ a kvs, v = .ref a ∧ H a = some (.dK kvs) ∧ a ∉ S ∧ kvs.map Prod.fst = ks ∧ ∀ k v, (k, v) ∈ kvs → (f k).P v (msk S H) := by
  obtain ⟨a, o, e, ho, kvs, eo, al⟩ := h
  subst eo
  refine ⟨a, kvs, e, msk_same _ _ ho, fun q => ?_, al⟩
  unfold msk at ho
  rw [if_pos q] at ho
  cases ho
theorem atI_nat' {α : Type} {xs : List α} {i : Int} {v : α} (h0 : 0 ≤ i) (h : xs[i.toNat]? = some v) : atI xs i = some v := by
  have hl := (List.getElem?_eq_some_iff.mp h).1
  unfold atI ixN
  rw [if_pos h0, if_pos (by omega)]
  exact h
theorem rv_ixT {rs : List Rep} {i : Int} (h0 : 0 ≤ i) (hi : rs[i.toNat]? = some R) : RV2 b hs (rIxT K) (rT rs) (rInt i) R := fun S H x y k _ e1 e2 Q q => by
  obtain ⟨a, vs, e, ha, _, al⟩ := rT_at e1
  obtain ⟨v, hv, rv⟩ := al.get _ hi
  exact ⟨a, vs, i, v, e, e2, st_of ha, atI_nat' h0 hv, q v H (Fr.refl k) rv⟩
/-- where a list is: data, or one of the places -/
def LAt (b : Option Addr) (hs : Hs) (rs : List Rep) (R : Rep) : Prop := ∀ (S : List Addr) (H : Hp) (v : V), HotOk b S hs H → R.P v (msk S H) → ∃ a vs, v = .ref a ∧ H a = some (.lst vs) ∧ All2 rs vs (msk S H)
theorem lat_data {rs : List Rep} : LAt b hs rs (rL rs) := fun S H v _ h => by
  obtain ⟨a, vs, e, ha, _, al⟩ := rL_at h
  exact ⟨a, vs, e, ha, al⟩
theorem lat_hot {p : Addr} {rs : List Rep} (hp : (p, hL rs) ∈ hs) : LAt b hs rs (rAt p) := fun S H v ho h => by
  obtain ⟨_, _, o, h1, vs, eo, h2⟩ := ho _ hp
  subst eo
  exact ⟨p, vs, h, h1, h2⟩
theorem rv_ixL {rs : List Rep} {i : Int} (la : LAt b hs rs Ra) (h0 : 0 ≤ i) (hi : rs[i.toNat]? = some R) : RV2 b hs (rIxL K) Ra (rInt i) R := fun S H x y k ho e1 e2 Q q => by
  obtain ⟨a, vs, e, ha, al⟩ := la _ _ _ ho e1
  obtain ⟨v, hv, rv⟩ := al.get _ hi
  exact ⟨a, vs, i, v, e, e2, sq_of ha, atI_nat' h0 hv, q v H (Fr.refl k) rv⟩
/-- a new object behind an operation -/
theorem newQ {o : HO} {Q : VK} {S : List Addr} {H : Hp} (k : HpOk b S H) (ho : h.P o (msk S H)) (q : ∀ v H', Fr b S H H' → (rOf h).P v (msk S H') → Q v H') : ∀ p, H p = none → Q (.ref p) (upd H p o) := fun p hp =>
  q _ _ (Fr.new k hp) ⟨p, o, rfl, (msk_out (new_out k hp)).trans upd_same, h.up (msk_new hp) ho⟩
theorem rv_cat {rs rs' : List Rep} (hl : rs.length + rs'.length ≤ 100000) : RV2 b hs rCat (rL rs) (rL rs') (rL (rs ++ rs')) := fun S H x y k _ e1 e2 Q q => by
  obtain ⟨a, vs, e, ha, _, al⟩ := rL_at e1
  obtain ⟨a', vs', e', ha', _, al'⟩ := rL_at e2
  exact ⟨a, a', vs, vs', e, e', ha, ha', by rw [al.len, al'.len]; exact Nat.le_trans hl (by decide), newQ (h := hL _) k ⟨_, rfl, All2.app al' al⟩ q⟩
theorem rv_catS {x y : Str} (hl : x.length + y.length ≤ 100000) : RV2 b hs rCatS (rStr x) (rStr y) (rStr (x ++ y)) := fun S H u v k _ e1 e2 Q q => ⟨x, y, e1, e2, Nat.le_trans hl (by decide), q _ H (Fr.refl k) rfl⟩
theorem rv_inSg {c : Nat} {z : Str} : RV2 b hs rInSg (rStr ⟨#[c]⟩) (rStr z) (rBl (decide (c ∈ z.cps.toList))) := fun S H u v k _ e1 e2 Q q => ⟨c, z, e1, e2, q _ H (Fr.refl k) rfl⟩
theorem rv_isNo {x : V} : RV2 b hs rIsNo (rC x) rNon (rBl (decide (x = .non))) := fun S H u v k _ e1 e2 Q q => by
  rw [show u = x from e1]
  exact ⟨e2, q _ H (Fr.refl k) rfl⟩
theorem rv_notNo {x : V} : RV2 b hs rNotNo (rC x) rNon (rBl (!decide (x = .non))) := fun S H u v k _ e1 e2 Q q => by
  rw [show u = x from e1]
  exact ⟨e2, q _ H (Fr.refl k) rfl⟩
theorem inV_ints (i : Int) : ∀ ns : List Int, inV (V.int i) (ns.map V.int) = decide (i ∈ ns)
  | [] => rfl
  | n :: ns => by
    have ih := inV_ints i ns
    unfold inV at ih ⊢
    rw [List.map_cons, List.any_cons, ih]
    show ((n == i) || decide (i ∈ ns)) = decide (i ∈ n :: ns)
    by_cases e : n = i
    · subst e
      simp
    · have e1 : (n == i) = false := by simp [e]
      have e2 : ¬ i = n := fun q => e q.symm
      rw [e1]
      simp [e2]
/-- i in (a, b), numbers -/
theorem rv_inT {i : Int} {ns : List Int} : RV2 b hs (rIn K false) (rInt i) (rT (ns.map rInt)) (rBl (decide (i ∈ ns))) := fun S H u v k _ e1 e2 Q q => by
  obtain ⟨a, vs, e, ha, _, al⟩ := rT_at e2
  have ev : vs = ns.map V.int := All2.consts V.int al
  subst ev
  rw [show u = V.int i from e1]
  refine ⟨a, _, e, Or.inr (st_of ha), rfl, by rw [List.all_eq_true]; intro z hz; obtain ⟨n, _, rfl⟩ := List.mem_map.mp hz; rfl, ?_⟩
  show Q (.bl (if false = true then _ else _)) H
  rw [if_neg Bool.false_ne_true, inV_ints]
  exact q _ H (Fr.refl k) rfl
/-! ### data that == compares -/
mutual
theorem Dp.up {H H' : Hp} (s : Same H H') : ∀ {v : V} {d : PyData}, Dp K H v d → Dp K H' v d
  | _, _, .non => .non
  | _, _, .bl b => .bl b
  | _, _, .int i => .int i
  | _, _, .str x => .str x
  | _, _, .lst h a => .lst (s.seq h) (DpAll.up s a)
  | _, _, .tup h a => .tup (by
      rcases h with (h | ⟨o, h⟩) | h
      · exact .inl (.inl (s _ _ h))
      · exact .inl (.inr ⟨o, s _ _ h⟩)
      · exact .inr h) (DpAll.up s a)
theorem DpAll.up {H H' : Hp} (s : Same H H') : ∀ {vs : List V} {ds : List PyData}, DpAll K H vs ds → DpAll K H' vs ds
  | _, _, .nil => .nil
  | _, _, .cons h t => .cons (Dp.up s h) (DpAll.up s t)
end
/-- R's values are the data d -/
def IsDp (K : PySem.W.Frag) (R : Rep) (d : PyData) : Prop := ∀ v M, R.P v M → Dp K M v d
theorem dp_int {i : Int} : IsDp K (rInt i) (.int i) := fun v M h => by rw [show v = _ from h]; exact .int i
theorem dp_str {z : Str} : IsDp K (rStr z) (.str z) := fun v M h => by rw [show v = _ from h]; exact .str z
theorem dp_bl {c : Bool} : IsDp K (rBl c) (.bool c) := fun v M h => by rw [show v = _ from h]; exact .bl c
theorem dp_non : IsDp K rNon .none := fun v M h => by rw [show v = _ from h]; exact .non
theorem dpAll {α : Type} {f : α → Rep} {g : α → PyData} {M : Hp} : ∀ {xs : List α} {vs : List V}, (∀ x ∈ xs, IsDp K (f x) (g x)) → All2 (xs.map f) vs M → DpAll K M vs (xs.map g)
  | [], [], _, _ => .nil
  | x :: xs, v :: vs, hfg, h => .cons (hfg x List.mem_cons_self v M h.1) (dpAll (fun y hy => hfg y (List.mem_cons_of_mem _ hy)) h.2)
  | [], _ :: _, _, h => h.elim
  | _ :: _, [], _, h => h.elim
theorem dp_list {α : Type} {f : α → Rep} {g : α → PyData} {xs : List α} (h : ∀ x ∈ xs, IsDp K (f x) (g x)) : IsDp K (rL (xs.map f)) (.list (xs.map g)) := fun v M q => by
  obtain ⟨a, o, e, ho, vs, eo, al⟩ := q
  subst eo
  rw [e]
  exact .lst (sq_of ho) (dpAll h al)
theorem dp_tup {α : Type} {f : α → Rep} {g : α → PyData} {xs : List α} (h : ∀ x ∈ xs, IsDp K (f x) (g x)) : IsDp K (rT (xs.map f)) (.tuple (xs.map g)) := fun v M q => by
  obtain ⟨a, vs, e, ho, al⟩ := q
  rw [e]
  exact .tup (st_of ho) (dpAll h al)
theorem rv_eqD {d e : PyData} (h1 : IsDp K Ra d) (h2 : IsDp K Rb e) (s1 : SeqAt.shaped d = true) (s2 : SeqAt.shaped e = true) : RV2 b hs (rEqD K) Ra Rb (rBl (PyData.eqv d e)) := fun S H x y k _ e1 e2 Q q =>
  ⟨d, e, Dp.up msk_same (h1 _ _ e1), Dp.up msk_same (h2 _ _ e2), s1, s2, q _ H (Fr.refl k) rfl⟩
theorem rv_neD {d e : PyData} (h1 : IsDp K Ra d) (h2 : IsDp K Rb e) (s1 : SeqAt.shaped d = true) (s2 : SeqAt.shaped e = true) : RV2 b hs (rNeD K) Ra Rb (rBl (!PyData.eqv d e)) := fun S H x y k _ e1 e2 Q q =>
  ⟨d, e, Dp.up msk_same (h1 _ _ e1), Dp.up msk_same (h2 _ _ e2), s1, s2, q _ H (Fr.refl k) rfl⟩
theorem rv_inD {d : PyData} {ds : List PyData} (h1 : IsDp K Ra d) (h2 : IsDp K Rb (.list ds)) (s1 : SeqAt.shaped d = true) (s2 : SeqAt.shaped (.list ds) = true) : RV2 b hs (rInD K) Ra Rb (rBl (ds.any fun z => PyData.eqv z d)) := fun S H x y k _ e1 e2 Q q =>
  ⟨d, ds, Dp.up msk_same (h1 _ _ e1), Dp.up msk_same (h2 _ _ e2), s1, s2, q _ H (Fr.refl k) rfl⟩
theorem rv_notInD {d : PyData} {ds : List PyData} (h1 : IsDp K Ra d) (h2 : IsDp K Rb (.list ds)) (s1 : SeqAt.shaped d = true) (s2 : SeqAt.shaped (.list ds) = true) : RV2 b hs (rNotInD K) Ra Rb (rBl (!ds.any fun z => PyData.eqv z d)) := fun S H x y k _ e1 e2 Q q =>
  ⟨d, ds, Dp.up msk_same (h1 _ _ e1), Dp.up msk_same (h2 _ _ e2), s1, s2, q _ H (Fr.refl k) rfl⟩
/-! ### one operand, truth, choices -/
theorem ev_un {r : V → Hp → VK → Prop} (ha : EV b hs es ta Ra) (hr : ∀ (S : List Addr) (H : Hp) (x : V), HpOk b S H → HotOk b S hs H → Ra.P x (msk S H) → ∀ Q : VK, (∀ v H', Fr b S H H' → R.P v (msk S H') → Q v H') → r x H Q) : EV b hs es (tUn r ta) R := fun S σ H s Q q =>
  ha S σ H s _ fun x H1 f1 r1 => hr S H1 x f1.ok (s.mono f1).ht r1 Q fun v H2 f2 r2 => q v H2 (f1.trans f2) r2
theorem ev_neg {i : Int} (ha : EV b hs es ta (rInt i)) : EV b hs es (tUn (rU fun i => .int (-i)) ta) (rInt (-i)) := ev_un ha fun S H x k _ e Q q => ⟨i, e, q _ H (Fr.refl k) rfl⟩
theorem ev_andV {c d : Bool} (ha : EV b hs es ta (rBl c)) (hb : c = true → EV b hs es tb (rBl d)) : EV b hs es (tAndV ta tb) (rBl (c && d)) := fun S σ H s Q q =>
  ha S σ H s _ fun x H1 f1 r1 => ⟨c, r1, by
    cases c with
    | true => exact (if_pos rfl) ▸ hb rfl S σ H1 (s.mono f1) Q fun v H2 f2 r2 => q v H2 (f1.trans f2) r2
    | false => rw [if_neg Bool.false_ne_true]; exact q _ H1 f1 rfl⟩
theorem ev_orV {c d : Bool} (ha : EV b hs es ta (rBl c)) (hb : c = false → EV b hs es tb (rBl d)) : EV b hs es (tOrV ta tb) (rBl (c || d)) := fun S σ H s Q q =>
  ha S σ H s _ fun x H1 f1 r1 => ⟨c, r1, by
    cases c with
    | true => rw [if_pos rfl]; exact q _ H1 f1 rfl
    | false => rw [if_neg Bool.false_ne_true]; exact hb rfl S σ H1 (s.mono f1) Q fun v H2 f2 r2 => q v H2 (f1.trans f2) r2⟩
theorem ev_notV {c : Bool} (ha : EV b hs es ta (rBl c)) : EV b hs es (tNotV ta) (rBl (!c)) := fun S σ H s Q q =>
  ha S σ H s _ fun x H1 f1 r1 => ⟨c, r1, q _ H1 f1 rfl⟩
theorem ev_chain {r r' : R2} {c d : Bool} (ha : EV b hs es ta Ra) (hb : EV b hs es tb Rb) (h1 : RV2 b hs r Ra Rb (rBl c)) (hc : c = true → EV b hs es tc Rc) (h2 : c = true → RV2 b hs r' Rb Rc (rBl d)) : EV b hs es (tChain r r' ta tb tc) (rBl (c && d)) := fun S σ H s Q q =>
  ha S σ H s _ fun x H1 f1 r1 => hb S σ H1 (s.mono f1) _ fun y H2 f2 r2 => h1 S H2 x y f2.ok ((s.mono f1).mono f2).ht (Ra.up f2.dat r1) r2 _ fun z H3 f3 r3 => ⟨c, r3, by
    have f123 := (f1.trans f2).trans f3
    cases c with
    | true =>
      rw [if_pos rfl]
      exact hc rfl S σ H3 (s.mono f123) _ fun w' H4 f4 r4 => h2 rfl S H4 y w' f4.ok ((s.mono f123).mono f4).ht (Rb.up (f3.dat.trans f4.dat) r2) r4 Q fun v H5 f5 r5 => q v H5 ((f123.trans f4).trans f5) r5
    | false => rw [if_neg Bool.false_ne_true]; exact q _ H3 f123 rfl⟩
/-! tests -/
abbrev ETd (b : Option Addr) (hs : Hs) (es : Es) (tt : TT) (c : Bool) : Prop := ET b hs es tt (fun k => k = c)
theorem et_test {c : Bool} (h : EV b hs es te (rBl c)) : ETd b hs es (tTest te) c := fun S σ H s Q q => h S σ H s _ fun v H1 f r => ⟨c, r, q c H1 f rfl⟩
theorem et_B {c : Bool} (h : EV b hs es te (rBl c)) : ETd b hs es (tB te) c := fun S σ H s Q q => h S σ H s _ fun v H1 f r => ⟨c, r, q c H1 f rfl⟩
theorem et_testX {P : Bool → Prop} (h : EV b hs es te (rEx P rBl)) : ET b hs es (tTest te) P := fun S σ H s Q q => h S σ H s _ fun v H1 f r => by
  obtain ⟨c, pc, r⟩ := r
  exact ⟨c, r, q c H1 f pc⟩
theorem et_BX {P : Bool → Prop} (h : EV b hs es te (rEx P rBl)) : ET b hs es (tB te) P := fun S σ H s Q q => h S σ H s _ fun v H1 f r => by
  obtain ⟨c, pc, r⟩ := r
  exact ⟨c, r, q c H1 f pc⟩
theorem et_and {c d : Bool} (h1 : ETd b hs es tt c) (h2 : c = true → ETd b hs es tu d) : ETd b hs es (tAnd tt tu) (c && d) := fun S σ H s Q q => h1 S σ H s _ fun k H1 f e => by
  subst e
  cases k with
  | true => rw [if_pos rfl]; exact h2 rfl S σ H1 (s.mono f) Q fun k2 H2 f2 e2 => q k2 H2 (f.trans f2) e2
  | false => rw [if_neg Bool.false_ne_true]; exact q _ H1 f rfl
theorem et_or {c d : Bool} (h1 : ETd b hs es tt c) (h2 : c = false → ETd b hs es tu d) : ETd b hs es (tOr tt tu) (c || d) := fun S σ H s Q q => h1 S σ H s _ fun k H1 f e => by
  subst e
  cases k with
  | true => rw [if_pos rfl]; exact q _ H1 f rfl
  | false => rw [if_neg Bool.false_ne_true]; exact h2 rfl S σ H1 (s.mono f) Q fun k2 H2 f2 e2 => q k2 H2 (f.trans f2) e2
theorem et_not {c : Bool} (h1 : ETd b hs es tt c) : ETd b hs es (tNot tt) (!c) := fun S σ H s Q q => h1 S σ H s _ fun k H1 f e => q _ H1 f (by rw [e])
theorem et_yes : ETd b hs es tYes true := fun S σ H s Q q => q _ H (Fr.refl s.ok) rfl
theorem et_to {c d : Bool} (h : ETd b hs es tt c) (e : c = d) : ETd b hs es tt d := e ▸ h
theorem ev_to {R' : Rep} (h : EV b hs es te R) (e : R = R') : EV b hs es te R' := e ▸ h
theorem ev_bl {c d : Bool} (h : EV b hs es te (rBl c)) (e : c = d) : EV b hs es te (rBl d) := e ▸ h
theorem ev_if {c : Bool} (h : ETd b hs es tt c) (h1 : c = true → EV b hs es ta R) (h2 : c = false → EV b hs es tb R) : EV b hs es (tIf tt ta tb) R := fun S σ H s Q q => h S σ H s _ fun k H1 f e => by
  subst e
  cases k with
  | true => rw [if_pos rfl]; exact h1 rfl S σ H1 (s.mono f) Q fun v H2 f2 r => q v H2 (f.trans f2) r
  | false => rw [if_neg Bool.false_ne_true]; exact h2 rfl S σ H1 (s.mono f) Q fun v H2 f2 r => q v H2 (f.trans f2) r
/-! arguments, displays, calls -/
theorem ea_nil : EA b hs es tNil [] := fun S σ H s Q q => q [] H (Fr.refl s.ok) True.intro
theorem ea_cons {Rs : List Rep} (ha : EV b hs es ta R) (hr : EA b hs es tar Rs) : EA b hs es (tCons ta tar) (R :: Rs) := fun S σ H s Q q =>
  ha S σ H s _ fun x H1 f1 r1 => hr S σ H1 (s.mono f1) _ fun xs H2 f2 r2 => q _ H2 (f1.trans f2) ⟨R.up f2.dat r1, r2⟩
/-- a new object -/
theorem en_new {o : HO} (k : HpOk b S H) (f : Fr b S H H1) (ho : h.P o (msk S H1)) {Q : VK} (q : ∀ p o H', FrN b S H p H' → H' p = some o → h.P o (msk (p :: S) H') → Q (.ref p) H') : ∀ p, H1 p = none → Q (.ref p) (upd H1 p o) := fun p hp =>
  q p o _ (FrN.mk' f hp (h.no ho)) upd_same (by rw [msk_cons hp]; exact ho)
theorem en_lst {Rs : List Rep} (ha : EA b hs es tar Rs) (hl : Rs.length ≤ 100000) : EN b hs es (tLst tar) (hL Rs) := fun S σ H s Q q =>
  ha S σ H s _ fun vs H1 f1 r1 => ⟨by rw [r1.len]; exact Nat.le_trans hl (by decide), en_new (h := hL Rs) s.ok f1 ⟨vs, rfl, r1⟩ q⟩
theorem ev_tup {Rs : List Rep} (ha : EA b hs es tar Rs) (hl : Rs.length ≤ 100000 := by exact Nat.le_of_ble_eq_true rfl) : EV b hs es (tTup tar) (rT Rs) := fun S σ H s Q q =>
  ha S σ H s _ fun vs H1 f1 r1 => ⟨by rw [r1.len]; exact Nat.le_trans hl (by decide), fun p hp => q _ _ (f1.trans (Fr.new f1.ok hp)) ⟨p, vs, rfl, (msk_out (new_out f1.ok hp)).trans upd_same, r1.up (msk_new hp)⟩⟩
theorem ev_lst {Rs : List Rep} (ha : EA b hs es tar Rs) (hl : Rs.length ≤ 100000 := by exact Nat.le_of_ble_eq_true rfl) : EV b hs es (tLst tar) (rL Rs) := (en_lst ha hl).ev
/-- what a def promises: of the arguments' Reps, the result's Rep -/
def SpD (C : Option Addr → List Rep → Rep → Prop) : Sp := fun vs H Q _ => ∃ (S : List Addr) (b : Option Addr) (rs : List Rep) (R : Rep), HpOk b S H ∧ All2 rs vs (msk S H) ∧ C b rs R ∧ ∀ v H', Fr b S H H' → R.P v (msk S H') → Q v H'
/-- .. a new object of its own -/
def SpN (C : Option Addr → List Rep → HRep → Prop) : Sp := fun vs H Q _ => ∃ (S : List Addr) (b : Option Addr) (rs : List Rep) (h : HRep), HpOk b S H ∧ All2 rs vs (msk S H) ∧ C b rs h ∧ ∀ p o H', FrN b S H p H' → H' p = some o → h.P o (msk (p :: S) H') → Q (.ref p) H'
theorem ev_call {C : Option Addr → List Rep → Rep → Prop} {Rs : List Rep} {E : XK} (ha : EA b hs es tar Rs) (hc : C b Rs R) : EV b hs es (tCall (SpD C) [] E tar) R := fun S σ H s Q q =>
  ha S σ H s _ fun vs H1 f1 r1 => ⟨S, b, Rs, R, f1.ok, by rw [List.append_nil]; exact r1, hc, fun v H' f2 r2 => q v H' (f1.trans f2) r2⟩
theorem en_call {C : Option Addr → List Rep → HRep → Prop} {Rs : List Rep} {E : XK} (ha : EA b hs es tar Rs) (hc : C b Rs h) : EN b hs es (tCall (SpN C) [] E tar) h := fun S σ H s Q q =>
  ha S σ H s _ fun vs H1 f1 r1 => ⟨S, b, Rs, h, f1.ok, by rw [List.append_nil]; exact r1, hc, fun p o H' f2 e2 r2 => q p o H' (FrN.after f1 f2) e2 r2⟩
/-- a built-in called -/
def RC1 (b : Option Addr) (hs : Hs) (r : List V → Hp → VK → Prop) (Rs : List Rep) (R : Rep) : Prop := ∀ (S : List Addr) (H : Hp) (vs : List V), HpOk b S H → HotOk b S hs H → All2 Rs vs (msk S H) → ∀ Q : VK, (∀ v H', Fr b S H H' → R.P v (msk S H') → Q v H') → r vs H Q
def RN1 (b : Option Addr) (hs : Hs) (r : List V → Hp → VK → Prop) (Rs : List Rep) (h : HRep) : Prop := ∀ (S : List Addr) (H : Hp) (vs : List V), HpOk b S H → HotOk b S hs H → All2 Rs vs (msk S H) → ∀ Q : VK, (∀ p o H', FrN b S H p H' → H' p = some o → h.P o (msk (p :: S) H') → Q (.ref p) H') → r vs H Q
theorem ev_cb {r : List V → Hp → VK → Prop} {Rs : List Rep} (ha : EA b hs es tar Rs) (hr : RC1 b hs r Rs R) : EV b hs es (tCB r tar) R := fun S σ H s Q q =>
  ha S σ H s _ fun vs H1 f1 r1 => hr S H1 vs f1.ok (s.mono f1).ht r1 Q fun v H2 f2 r2 => q v H2 (f1.trans f2) r2
theorem en_cb {r : List V → Hp → VK → Prop} {Rs : List Rep} (ha : EA b hs es tar Rs) (hr : RN1 b hs r Rs h) : EN b hs es (tCB r tar) h := fun S σ H s Q q =>
  ha S σ H s _ fun vs H1 f1 r1 => hr S H1 vs f1.ok (s.mono f1).ht r1 Q fun p o H2 f2 e2 r2 => q p o H2 (FrN.after f1 f2) e2 r2
theorem all1 {v : List V} {M : Hp} (h : All2 [R] v M) : ∃ x, v = [x] ∧ R.P x M := by
  cases v with
  | nil => exact h.elim
  | cons x r => cases r with
    | nil => exact ⟨x, rfl, h.1⟩
    | cons _ _ => exact h.2.elim
theorem all_2 {v : List V} {M : Hp} (h : All2 [Ra, Rb] v M) : ∃ x y, v = [x, y] ∧ Ra.P x M ∧ Rb.P y M := by
  cases v with
  | nil => exact h.elim
  | cons x r =>
    obtain ⟨y, rfl, h2⟩ := all1 h.2
    exact ⟨x, y, rfl, h.1, h2⟩
theorem rc_lenL {rs : List Rep} : RC1 b hs (rLenK K) [rL rs] (rInt rs.length) := fun S H vs k _ al Q q => by
  obtain ⟨x, rfl, hx⟩ := all1 al
  obtain ⟨a, ws, e, ha, _, aw⟩ := rL_at hx
  refine ⟨x, ws.length, rfl, ?_, q _ H (Fr.refl k) (by rw [aw.len]; rfl)⟩
  rw [e]
  exact Or.inl ⟨ws, sq_of ha, rfl⟩
theorem rc_lenT {rs : List Rep} : RC1 b hs (rLenK K) [rT rs] (rInt rs.length) := fun S H vs k _ al Q q => by
  obtain ⟨x, rfl, hx⟩ := all1 al
  obtain ⟨a, ws, e, ha, _, aw⟩ := rT_at hx
  refine ⟨x, ws.length, rfl, ?_, q _ H (Fr.refl k) (by rw [aw.len]; rfl)⟩
  rw [e]
  exact Or.inr ⟨ws, st_of ha, rfl⟩
theorem rc_lenS {z : Str} (hz : z.length ≤ 100000) : RC1 b hs (rLenK K) [rStr z] (rInt z.length) := fun S H vs k _ al Q q => by
  obtain ⟨x, rfl, hx⟩ := all1 al
  rw [show x = _ from hx]
  exact ⟨_, z.length, rfl, ⟨Nat.le_trans hz (by decide), rfl⟩, q _ H (Fr.refl k) rfl⟩
theorem rn_list {rs : List Rep} : RN1 b hs (rListOf K) [rL rs] (hL rs) := fun S H vs k _ al Q q => by
  obtain ⟨x, rfl, hx⟩ := all1 al
  obtain ⟨a, ws, e, ha, _, aw⟩ := rL_at hx
  exact ⟨a, ws, by rw [e], Or.inl (sq_of ha), en_new (h := hL rs) k (Fr.refl k) ⟨ws, rfl, aw⟩ q⟩
theorem rc_all {cs : List Bool} : RC1 b hs (rAll K) [rL (cs.map rBl)] (rBl (cs.all id)) := fun S H vs k _ al Q q => by
  obtain ⟨x, rfl, hx⟩ := all1 al
  obtain ⟨a, ws, e, ha, _, aw⟩ := rL_at hx
  have ev : ws = cs.map V.bl := All2.consts V.bl aw
  exact ⟨a, cs, by rw [e], by rw [← ev]; exact sq_of ha, q _ H (Fr.refl k) rfl⟩
theorem rc_sum {ns : List Int} : RC1 b hs (rSum K) [rL (ns.map rInt)] (rInt ns.sum) := fun S H vs k _ al Q q => by
  obtain ⟨x, rfl, hx⟩ := all1 al
  obtain ⟨a, ws, e, ha, _, aw⟩ := rL_at hx
  have ev : ws = ns.map V.int := All2.consts V.int aw
  exact ⟨a, ns, by rw [e], by rw [← ev]; exact sq_of ha, q _ H (Fr.refl k) rfl⟩
theorem rc_abs {i : Int} : RC1 b hs rAbs [rInt i] (rInt (if i < 0 then -i else i)) := fun S H vs k _ al Q q => by
  obtain ⟨x, rfl, hx⟩ := all1 al
  exact ⟨i, by rw [show x = _ from hx], q _ H (Fr.refl k) rfl⟩
theorem rc_int {i : Int} : RC1 b hs rInt1 [rInt i] (rInt i) := fun S H vs k _ al Q q => by
  obtain ⟨x, rfl, hx⟩ := all1 al
  exact Or.inl ⟨i, by rw [show x = _ from hx], q _ H (Fr.refl k) rfl⟩
theorem ev_lenL {rs : List Rep} (ha : EV b hs es ta R) (la : LAt b hs rs R) : EV b hs es (tCB (rLenK K) (tCons ta tNil)) (rInt rs.length) := ev_cb (ea_cons ha ea_nil) fun S H vs k ho al Q q => by
  obtain ⟨x, rfl, hx⟩ := all1 al
  obtain ⟨a, ws, e, ha, aw⟩ := la _ _ _ ho hx
  refine ⟨x, ws.length, rfl, ?_, q _ H (Fr.refl k) (by rw [aw.len]; rfl)⟩
  rw [e]
  exact Or.inl ⟨ws, sq_of ha, rfl⟩
theorem ev_lenT {rs : List Rep} (ha : EV b hs es ta (rT rs)) : EV b hs es (tCB (rLenK K) (tCons ta tNil)) (rInt rs.length) := ev_cb (ea_cons ha ea_nil) rc_lenT
theorem ev_lenS {z : Str} (ha : EV b hs es ta (rStr z)) (hz : z.length ≤ 100000) : EV b hs es (tCB (rLenK K) (tCons ta tNil)) (rInt z.length) := ev_cb (ea_cons ha ea_nil) (rc_lenS hz)
theorem en_list {rs : List Rep} (ha : EV b hs es ta R) (la : LAt b hs rs R) : EN b hs es (tCB (rListOf K) (tCons ta tNil)) (hL rs) := en_cb (ea_cons ha ea_nil) fun S H vs k ho al Q q => by
  obtain ⟨x, rfl, hx⟩ := all1 al
  obtain ⟨a, ws, e, ha, aw⟩ := la _ _ _ ho hx
  exact ⟨a, ws, by rw [e], Or.inl (sq_of ha), en_new (h := hL rs) k (Fr.refl k) ⟨ws, rfl, aw⟩ q⟩
/-- isinstance, the type known -/
def TyR (K : PySem.W.Frag) (R : Rep) (t : Value) : Prop := ∀ v M H, Same M H → R.P v M → TyX K H v t
theorem ty_int {i : Int} : TyR K (rInt i) (.type "int") := fun v M H _ h => by rw [show v = _ from h]; exact .base (.int i)
theorem ty_str {z : Str} : TyR K (rStr z) (.type "str") := fun v M H _ h => by rw [show v = _ from h]; exact .base (.str z)
theorem ty_bl {c : Bool} : TyR K (rBl c) (.type "bool") := fun v M H _ h => by rw [show v = _ from h]; exact .base (.bl c)
theorem ty_non : TyR K rNon (.type "NoneType") := fun v M H _ h => by rw [show v = _ from h]; exact .base .non
theorem ty_L {rs : List Rep} : TyR K (rL rs) (.type "list") := fun v M H s h => by
  obtain ⟨a, o, e, ho, vs, eo, al⟩ := h
  subst eo
  rw [e]
  exact .base (.lst (s _ _ ho))
theorem ty_T {rs : List Rep} : TyR K (rT rs) (.type "tuple") := fun v M H s h => by
  obtain ⟨a, vs, e, ho, al⟩ := h
  rw [e]
  exact .base (.tup (s _ _ ho))
theorem rc_isi {t : Value} {n : String} {c : Bool} (h : TyR K R t) (hk : PySem.W.kitOne K t (.type n) = some c) : RC1 b hs (rIsi K) [R, rC (.ty n)] (rBl c) := fun S H vs k _ al Q q => by
  obtain ⟨x, y, rfl, hx, hy⟩ := all_2 al
  exact ⟨x, y, t, .type n, c, rfl, by rw [show y = _ from hy]; exact .ty n, h _ _ _ msk_same hx, hk, q _ H (Fr.refl k) rfl⟩
theorem rc_isiT {t : Value} {n m : String} {c : Bool} (h : TyR K R t) (hk : PySem.W.kitAny K t [.type n, .type m] = some c) : RC1 b hs (rIsiT K) [R, rT [rC (.ty n), rC (.ty m)]] (rBl c) := fun S H vs k _ al Q q => by
  obtain ⟨x, y, rfl, hx, hy⟩ := all_2 al
  obtain ⟨a, ws, e, ha, _, aw⟩ := rT_at hy
  obtain ⟨u, v, rfl, hu, hv⟩ := all_2 aw
  refine ⟨x, a, [u, v], t, [.type n, .type m], c, by rw [e], ha, ?_, h _ _ _ msk_same hx, hk, q _ H (Fr.refl k) rfl⟩
  rw [show u = _ from hu, show v = _ from hv]
  exact .cons (.ty n) (.cons (.ty m) .nil)
theorem ev_isi {t n : String} {c : Bool} (ha : EV b hs es ta R) (h : TyR K R (.type t)) (hk : kitB t n = some c) : EV b hs es (tCB (rIsi K) (tCons ta (tCons (tC (.ty n)) tNil))) (rBl c) := ev_cb (ea_cons ha (ea_cons ev_c ea_nil)) (rc_isi h (kit_ty hk))
def kit2 (t n m : String) : Option Bool := match kitB t n with
  | some true => some true
  | some false => kitB t m
  | none => none
theorem kit2_ok {t n m : String} {c : Bool} (h : kit2 t n m = some c) : PySem.W.kitAny K (.type t) [.type n, .type m] = some c := by
  unfold kit2 at h
  cases e : kitB t n with
  | none => rw [e] at h; cases h
  | some d =>
    rw [e] at h
    cases d with
    | true =>
      cases h
      exact kitAny_cons (kit_ty e) (fun z => nomatch z) (fun _ => rfl)
    | false =>
      refine kitAny_cons (r := c) (kit_ty e) (fun _ => ?_) (fun z => nomatch z)
      refine kitAny_cons (r := c) (kit_ty h) (fun z => ?_) (fun z => z)
      rw [z]
      rfl
theorem ev_isiT {t n m : String} {c : Bool} (ha : EV b hs es ta R) (h : TyR K R (.type t)) (hk : kit2 t n m = some c) : EV b hs es (tCB (rIsiT K) (tCons ta (tCons (tTup (tCons (tC (.ty n)) (tCons (tC (.ty m)) tNil))) tNil))) (rBl c) :=
  ev_cb (ea_cons ha (ea_cons (ev_tup (ea_cons ev_c (ea_cons ev_c ea_nil))) ea_nil)) (rc_isiT h (kit2_ok hk))
/-! dicts -/
theorem valV_mem {κ : Type} [DecidableEq κ] {kvs : List (κ × V)} {k : κ} {v : V} (h : valV kvs k = some v) : (k, v) ∈ kvs := by
  unfold valV at h
  obtain ⟨q, hq, e⟩ := Option.map_eq_some_iff.mp h
  have h1 := List.find?_some hq
  have h2 := List.mem_of_find?_eq_some hq
  have h3 : q.1 = k := by simpa using h1
  rw [← h3, ← e]
  exact h2
theorem valV_none {κ : Type} [DecidableEq κ] {kvs : List (κ × V)} {k : κ} : valV kvs k = none ↔ k ∉ kvs.map Prod.fst := by
  unfold valV
  rw [Option.map_eq_none_iff, List.find?_eq_none]
  constructor
  · intro h q
    obtain ⟨p, hp, e⟩ := List.mem_map.mp q
    exact h p hp (by simp [e])
  · intro h p hp q
    exact h (List.mem_map.mpr ⟨p, hp, by simpa using q⟩)
theorem valV_some {κ : Type} [DecidableEq κ] {kvs : List (κ × V)} {k : κ} (h : k ∈ kvs.map Prod.fst) : ∃ v, valV kvs k = some v := by
  cases e : valV kvs k with
  | some v => exact ⟨v, rfl⟩
  | none => exact absurd h (valV_none.mp e)
instance memKey (k : Key) (ks : List Key) : Decidable (k ∈ ks) := @List.instDecidableMemOfLawfulBEq Key instBEqOfDecidableEq inferInstance k ks
instance memKeys (k : List Key) (ks : List (List Key)) : Decidable (k ∈ ks) := @List.instDecidableMemOfLawfulBEq (List Key) instBEqOfDecidableEq inferInstance k ks
theorem valV_isSome {κ : Type} [DecidableEq κ] {kvs : List (κ × V)} {k : κ} [Decidable (k ∈ kvs.map Prod.fst)] : (valV kvs k).isSome = decide (k ∈ kvs.map Prod.fst) := by
  by_cases h : k ∈ kvs.map Prod.fst
  · obtain ⟨v, e⟩ := valV_some h
    rw [e, decide_eq_true h]
    rfl
  · rw [valV_none.mpr h, decide_eq_false h]
    rfl
/-- R's values are tuples that are the key k -/
def KeyT (R : Rep) (k : List Key) : Prop := ∀ v M, R.P v M → ∃ q, v = .ref q ∧ M q = some (.tup (k.map kV))
theorem key_ints {i j : Int} : KeyT (rT [rInt i, rInt j]) [.inl i, .inl j] := fun v M h => by
  obtain ⟨a, vs, e, ho, al⟩ := h
  obtain ⟨x, y, rfl, hx, hy⟩ := all_2 al
  rw [show x = _ from hx, show y = _ from hy] at ho
  exact ⟨a, e, ho⟩
theorem key_strs {i j : Str} : KeyT (rT [rStr i, rStr j]) [.inr i, .inr j] := fun v M h => by
  obtain ⟨a, vs, e, ho, al⟩ := h
  obtain ⟨x, y, rfl, hx, hy⟩ := all_2 al
  rw [show x = _ from hx, show y = _ from hy] at ho
  exact ⟨a, e, ho⟩
/-- where a dict is: data, or one of the places -/
def DAt (b : Option Addr) (S : List Addr) (hs : Hs) (ks : List (List Key)) (f : List Key → Rep) (Rd : Rep) : Prop :=
  ∀ (H : Hp) (v : V), HotOk b S hs H → Rd.P v (msk S H) → ∃ a kvs, v = .ref a ∧ H a = some (.dT kvs) ∧ kvs.map Prod.fst = ks ∧ ∀ k v, (k, v) ∈ kvs → (f k).P v (msk S H)
theorem dat_data {ks : List (List Key)} {f : List Key → Rep} : DAt b S hs ks f (rDT ks f) := fun H v _ h => by
  obtain ⟨a, kvs, e, ha, _, h1, h2⟩ := rDT_at h
  exact ⟨a, kvs, e, ha, h1, h2⟩
theorem dat_hot {p : Addr} {ks : List (List Key)} {f : List Key → Rep} (hp : (p, hDT ks f) ∈ hs) : DAt b S hs ks f (rAt p) := fun H v ho h => by
  obtain ⟨_, _, o, h1, kvs, eo, h2, h3⟩ := ho _ hp
  subst eo
  exact ⟨p, kvs, h, h1, h2, h3⟩
theorem ev_din {ks : List (List Key)} {f : List Key → Rep} {k : List Key} (hk : EV b hs es ta Ra) (hd : EV b hs es tb Rb) (kk : KeyT Ra k) (hb : ∀ S, DAt b S hs ks f Rb) : EV b hs es (tDIn ta tb) (rBl (decide (k ∈ ks))) := fun S σ H s Q q =>
  hk S σ H s _ fun y H1 f1 r1 => hd S σ H1 (s.mono f1) _ fun x H2 f2 r2 => by
    obtain ⟨a, kvs, e, ha, hks, _⟩ := hb S H2 x ((s.mono f1).mono f2).ht r2
    obtain ⟨c, e1, hc⟩ := kk _ _ (Ra.up f2.dat r1)
    refine ⟨a, _, e, by rw [e1]; exact DGet.t ha (msk_same _ _ hc), ?_⟩
    subst hks
    rw [valV_isSome]
    exact q _ H2 (f1.trans f2) rfl
theorem ev_dnotin {ks : List (List Key)} {f : List Key → Rep} {k : List Key} (hk : EV b hs es ta Ra) (hd : EV b hs es tb Rb) (kk : KeyT Ra k) (hb : ∀ S, DAt b S hs ks f Rb) : EV b hs es (tDNotIn ta tb) (rBl (!decide (k ∈ ks))) := fun S σ H s Q q =>
  hk S σ H s _ fun y H1 f1 r1 => hd S σ H1 (s.mono f1) _ fun x H2 f2 r2 => by
    obtain ⟨a, kvs, e, ha, hks, _⟩ := hb S H2 x ((s.mono f1).mono f2).ht r2
    obtain ⟨c, e1, hc⟩ := kk _ _ (Ra.up f2.dat r1)
    refine ⟨a, _, e, by rw [e1]; exact DGet.t ha (msk_same _ _ hc), ?_⟩
    subst hks
    rw [valV_isSome]
    exact q _ H2 (f1.trans f2) rfl
theorem ev_dget {ks : List (List Key)} {f : List Key → Rep} {k : List Key} (hd : EV b hs es tb Rb) (hk : EV b hs es ta Ra) (kk : KeyT Ra k) (hb : ∀ S, DAt b S hs ks f Rb) (hm : k ∈ ks) : EV b hs es (tDGet tb ta) (f k) := fun S σ H s Q q =>
  hd S σ H s _ fun x H1 f1 r1 => hk S σ H1 (s.mono f1) _ fun y H2 f2 r2 => by
    obtain ⟨a, kvs, e, ha, hks, hv⟩ := hb S H2 x ((s.mono f1).mono f2).ht (Rb.up f2.dat r1)
    obtain ⟨c, e1, hc⟩ := kk _ _ r2
    obtain ⟨v, ev⟩ := valV_some (kvs := kvs) (k := k) (by rw [hks]; exact hm)
    exact ⟨a, v, e, by rw [e1, ← ev]; exact DGet.t ha (msk_same _ _ hc), q v H2 (f1.trans f2) (hv k v (valV_mem ev))⟩
/-- d.get(k, x) -/
theorem ev_dget2 {ks : List (List Key)} {f : List Key → Rep} {k : List Key} (hd : EV b hs es tb Rb) (hk : EV b hs es ta Ra) (hx : EV b hs es tc Rc) (kk : KeyT Ra k) (hb : ∀ S, DAt b S hs ks f Rb) (h1 : k ∈ ks → ∀ v M, (f k).P v M → R.P v M) (h2 : k ∉ ks → ∀ v M, Rc.P v M → R.P v M) :
    EV b hs es (tDGet2 tb ta tc) R := fun S σ H s Q q =>
  hd S σ H s _ fun x H1 f1 r1 => by
    obtain ⟨a, kvs, e, ha, hks, hv⟩ := hb S H1 x (s.mono f1).ht r1
    refine ⟨a, e, Or.inr ⟨kvs, Or.inl ha⟩, hk S σ H1 (s.mono f1) _ fun y H2 f2 r2 => hx S σ H2 ((s.mono f1).mono f2) _ fun z H3 f3 r3 => ?_⟩
    have f123 := (f1.trans f2).trans f3
    obtain ⟨a', kvs', e', ha', hks', hv'⟩ := hb S H3 x (s.mono f123).ht (Rb.up (f2.dat.trans f3.dat) r1)
    cases e.symm.trans e'
    obtain ⟨c, e1, hc⟩ := kk _ _ (Ra.up f3.dat r2)
    refine ⟨_, by rw [e1]; exact DGet.t ha' (msk_same _ _ hc), ?_⟩
    by_cases hm : k ∈ ks
    · obtain ⟨v, ev⟩ := valV_some (kvs := kvs') (k := k) (by rw [hks']; exact hm)
      rw [ev]
      exact q v H3 f123 (h1 hm _ _ (hv' k v (valV_mem ev)))
    · rw [valV_none.mpr (by rw [hks']; exact hm)]
      exact q z H3 f123 (h2 hm _ _ r3)
/-! dicts with texts for keys -/
def DKAt (b : Option Addr) (S : List Addr) (hs : Hs) (ks : List Key) (f : Key → Rep) (Rd : Rep) : Prop :=
  ∀ (H : Hp) (v : V), HotOk b S hs H → Rd.P v (msk S H) → ∃ a kvs, v = .ref a ∧ Rd' H a kvs ∧ kvs.map Prod.fst = ks ∧ ∀ k v, (k, v) ∈ kvs → (f k).P v (msk S H)
where Rd' (H : Hp) (a : Addr) (kvs : List (Key × V)) : Prop := H a = some (.dK kvs)
theorem dkat_data {ks : List Key} {f : Key → Rep} : DKAt b S hs ks f (rDK ks f) := fun H v _ h => by
  obtain ⟨a, kvs, e, ha, _, h1, h2⟩ := rDK_at h
  exact ⟨a, kvs, e, ha, h1, h2⟩
theorem dkat_hot {p : Addr} {ks : List Key} {f : Key → Rep} (hp : (p, hDK ks f) ∈ hs) : DKAt b S hs ks f (rAt p) := fun H v ho h => by
  obtain ⟨_, _, o, h1, kvs, eo, h2, h3⟩ := ho _ hp
  subst eo
  exact ⟨p, kvs, h, h1, h2, h3⟩
theorem ev_dkin {ks : List Key} {f : Key → Rep} {k : Key} (hk : EV b hs es ta (rC (kV k))) (hd : EV b hs es tb Rb) (hb : ∀ S, DKAt b S hs ks f Rb) : EV b hs es (tDIn ta tb) (rBl (decide (k ∈ ks))) := fun S σ H s Q q =>
  hk S σ H s _ fun y H1 f1 r1 => hd S σ H1 (s.mono f1) _ fun x H2 f2 r2 => by
    obtain ⟨a, kvs, e, ha, hks, _⟩ := hb S H2 x ((s.mono f1).mono f2).ht r2
    refine ⟨a, _, e, by rw [show y = _ from r1]; exact DGet.k ha, ?_⟩
    subst hks
    rw [valV_isSome]
    exact q _ H2 (f1.trans f2) rfl
theorem ev_dknotin {ks : List Key} {f : Key → Rep} {k : Key} (hk : EV b hs es ta (rC (kV k))) (hd : EV b hs es tb Rb) (hb : ∀ S, DKAt b S hs ks f Rb) : EV b hs es (tDNotIn ta tb) (rBl (!decide (k ∈ ks))) := fun S σ H s Q q =>
  hk S σ H s _ fun y H1 f1 r1 => hd S σ H1 (s.mono f1) _ fun x H2 f2 r2 => by
    obtain ⟨a, kvs, e, ha, hks, _⟩ := hb S H2 x ((s.mono f1).mono f2).ht r2
    refine ⟨a, _, e, by rw [show y = _ from r1]; exact DGet.k ha, ?_⟩
    subst hks
    rw [valV_isSome]
    exact q _ H2 (f1.trans f2) rfl
theorem ev_dkget {ks : List Key} {f : Key → Rep} {k : Key} (hd : EV b hs es tb Rb) (hk : EV b hs es ta (rC (kV k))) (hb : ∀ S, DKAt b S hs ks f Rb) (hm : k ∈ ks) : EV b hs es (tDGet tb ta) (f k) := fun S σ H s Q q =>
  hd S σ H s _ fun x H1 f1 r1 => hk S σ H1 (s.mono f1) _ fun y H2 f2 r2 => by
    obtain ⟨a, kvs, e, ha, hks, hv⟩ := hb S H2 x ((s.mono f1).mono f2).ht (Rb.up f2.dat r1)
    obtain ⟨v, ev⟩ := valV_some (kvs := kvs) (k := k) (by rw [hks]; exact hm)
    exact ⟨a, v, e, by rw [show y = _ from r2, ← ev]; exact DGet.k ha, q v H2 (f1.trans f2) (hv k v (valV_mem ev))⟩
theorem ev_dkget2 {ks : List Key} {f : Key → Rep} {k : Key} (hd : EV b hs es tb Rb) (hk : EV b hs es ta (rC (kV k))) (hx : EV b hs es tc Rc) (hb : ∀ S, DKAt b S hs ks f Rb) (h1 : k ∈ ks → ∀ v M, (f k).P v M → R.P v M) (h2 : k ∉ ks → ∀ v M, Rc.P v M → R.P v M) :
    EV b hs es (tDGet2 tb ta tc) R := fun S σ H s Q q =>
  hd S σ H s _ fun x H1 f1 r1 => by
    obtain ⟨a, kvs, e, ha, hks, hv⟩ := hb S H1 x (s.mono f1).ht r1
    refine ⟨a, e, Or.inl ⟨kvs, Or.inl ha⟩, hk S σ H1 (s.mono f1) _ fun y H2 f2 r2 => hx S σ H2 ((s.mono f1).mono f2) _ fun z H3 f3 r3 => ?_⟩
    have f123 := (f1.trans f2).trans f3
    obtain ⟨a', kvs', e', ha', hks', hv'⟩ := hb S H3 x (s.mono f123).ht (Rb.up (f2.dat.trans f3.dat) r1)
    cases e.symm.trans e'
    refine ⟨_, by rw [show y = _ from r2]; exact DGet.k ha', ?_⟩
    by_cases hm : k ∈ ks
    · obtain ⟨v, ev⟩ := valV_some (kvs := kvs') (k := k) (by rw [hks']; exact hm)
      rw [ev]
      exact q v H3 f123 (h1 hm _ _ (hv' k v (valV_mem ev)))
    · rw [valV_none.mpr (by rw [hks']; exact hm)]
      exact q z H3 f123 (h2 hm _ _ r3)
theorem rc_lenDK {ks : List Key} {f : Key → Rep} : RC1 b hs rLenDK [rDK ks f] (rInt ks.length) := fun S H vs k _ al Q q => by
  obtain ⟨x, rfl, hx⟩ := all1 al
  obtain ⟨a, kvs, e, ha, _, h1, _⟩ := rDK_at hx
  exact ⟨a, kvs, by rw [e], ha, q _ H (Fr.refl k) (by rw [← h1, List.length_map]; rfl)⟩
theorem rn_listK {ks : List Key} {f : Key → Rep} : RN1 b hs rListK [rDK ks f] (hL (ks.map fun k => rC (kV k))) := fun S H vs k _ al Q q => by
  obtain ⟨x, rfl, hx⟩ := all1 al
  obtain ⟨a, kvs, e, ha, _, h1, _⟩ := rDK_at hx
  subst h1
  refine ⟨a, kvs, by rw [e], Or.inl ha, en_new (h := hL _) k (Fr.refl k) ⟨_, rfl, ?_⟩ q⟩
  rw [List.map_map]
  exact All2.of_map _ _ (fun x => rfl) kvs
/-! slices -/
theorem eo_none : EO b hs es tNoPart (fun o => o = none) := fun S σ H s Q q => q none H (Fr.refl s.ok) rfl
theorem eo_some {P : Int → Prop} (ha : EV b hs es ta (rZ P)) : EO b hs es (tPart ta) (fun o => ∃ i, o = some i ∧ P i) := fun S σ H s Q q => ha S σ H s _ fun v H1 f r => by
  obtain ⟨i, p, e⟩ := r
  exact ⟨i, e, q _ H1 f ⟨i, rfl, p⟩⟩
theorem ev_z {i : Int} {P : Int → Prop} (ha : EV b hs es ta (rInt i)) (p : P i) : EV b hs es ta (rZ P) := ha.up fun v M h => ⟨i, p, h⟩
/-- xs[lo:hi] of a list, the result by the Reps -/
def cutR (rs : List Rep) (lo hi : Option Int) : List Rep := (rs.drop (HT.sIx rs.length 0 lo)).take (HT.sIx rs.length rs.length hi - HT.sIx rs.length 0 lo)
theorem en_slice {rs : List Rep} {tl th : TO} {Pl Ph : Option Int → Prop} (ha : EV b hs es ta (rL rs)) (hl : EO b hs es tl Pl) (hh : EO b hs es th Ph) (hres : ∀ lo hi, Pl lo → Ph hi → ∀ vs M, All2 (cutR rs lo hi) vs M → h.P (.lst vs) M) :
    EN b hs es (tSl (rSlL K) ta tl th) h := fun S σ H s Q q =>
  ha S σ H s _ fun x H1 f1 r1 => hl S σ H1 (s.mono f1) _ fun lo H2 f2 p2 => hh S σ H2 ((s.mono f1).mono f2) _ fun hi H3 f3 p3 => by
    obtain ⟨a, vs, e, haa, _, al⟩ := rL_at ((rL rs).up (f2.dat.trans f3.dat) r1)
    refine ⟨a, vs, e, sq_of haa, en_new s.ok ((f1.trans f2).trans f3) (hres lo hi p2 p3 _ _ ?_) q⟩
    unfold cutR cutV
    rw [al.len]
    exact (al.drop _).take _
end
end L2.K9A
end
section
set_option Elab.async false
set_option linter.all false
set_option maxRecDepth 100000
set_option maxHeartbeats 2000000
namespace L2.K9A
open PySem PySem.Spec PyProof.Rows L2 L2.K9R
/-! ### statements -/
structure Bs where
  b : Option Addr
  S0 : List Addr
  H0 : Hp
  gs : List (V × Rep)
abbrev adr (hs : Hs) : List Addr := hs.map Prod.fst
abbrev Bs.S (B : Bs) (hs : Hs) : List Addr := adr hs ++ B.S0
structure Sat (B : Bs) (hs : Hs) (es : Es) (σ : St) (H : Hp) : Prop where
  e : SatE B.b (B.S hs) hs es σ H
  nd : (adr hs).Nodup
  out : ∀ p ∈ adr hs, p ∉ B.S0
  dat : Same (msk B.S0 B.H0) (msk (B.S hs) H)
  keep : ∀ p ∈ B.S0, B.b ≠ some p → H p = B.H0 p
  bin : ∀ a, B.b = some a → a ∈ B.S0
  gh : ∀ g ∈ B.gs, g.2.P g.1 (msk (B.S hs) H)
def N (B : Bs) (hs : Hs) (es : Es) (T : St → Hp → Prop) : Prop := ∀ σ H, Sat B hs es σ H → T σ H
section
variable {B : Bs} {b : Option Addr} {S : List Addr} {hs hs' : Hs} {es es' : Es} {σ : St} {H H1 H' : Hp} {ta tb tc te : TE} {tt tu : TT} {tar : TA} {R Ra Rb Rc : Rep} {K : PySem.W.Frag} {h : HRep} {D : Ends} {t1 t2 : TS} {T : St → Hp → Prop}
theorem Sat.mono (s : Sat B hs es σ H) (f : Fr B.b (B.S hs) H H') : Sat B hs es σ H' :=
  ⟨s.e.mono f, s.nd, s.out, s.dat.trans f.dat, fun p hp n => (f.hot p (List.mem_append_right _ hp) n).trans (s.keep p hp n), s.bin, fun g hg => g.2.up f.dat (s.gh g hg)⟩
theorem Sat.set {v : V} (s : Sat B hs es σ H) (i : Nat) (r : R.P v (msk (B.S hs) H)) : Sat B hs (es.set i (some R)) (σ.set i (some v)) H :=
  ⟨⟨s.e.ok, s.e.sl.set i r, s.e.ht⟩, s.nd, s.out, s.dat, s.keep, s.bin, s.gh⟩
theorem Sat.fin (s : Sat B hs es σ H) : Fr B.b B.S0 B.H0 H := by
  refine ⟨⟨fun p hp => s.e.ok.ob p (List.mem_append_right _ hp), fun a ha => ⟨s.bin a ha, (s.e.ok.bag a ha).2.up (msk_sub fun q hq => List.mem_append_right _ hq)⟩⟩, s.dat.trans (msk_sub fun q hq => List.mem_append_right _ hq), s.keep⟩
/-- a new place -/
theorem Sat.add {p : Addr} {o : HO} (s : Sat B hs es σ H) (f : FrN B.b (B.S hs) H p H') (ho : H' p = some o) (hh : h.P o (msk (p :: B.S hs) H')) : Sat B ((p, h) :: hs) es σ H' := by
  have nb : B.b ≠ some p := fun e => f.new (List.mem_append_right _ (s.bin p e))
  refine ⟨⟨f.ok, s.e.sl.up f.dat, fun x hx => ?_⟩, ?_, ?_, s.dat.trans f.dat, fun q hq n => (f.hot q (List.mem_append_right _ hq) n).trans (s.keep q hq n), s.bin, fun g hg => g.2.up f.dat (s.gh g hg)⟩
  · rcases List.mem_cons.mp hx with e | hx
    · subst e
      exact ⟨List.mem_cons_self, nb, o, ho, hh⟩
    · obtain ⟨h1, h2, o1, h3, h4⟩ := s.e.ht x hx
      exact ⟨List.mem_cons_of_mem _ h1, h2, o1, (f.hot _ h1 h2).trans h3, x.2.up f.dat h4⟩
  · exact List.nodup_cons.mpr ⟨fun q => f.new (List.mem_append_left _ q), s.nd⟩
  · intro q hq
    rcases List.mem_cons.mp hq with e | hq
    · subst e
      exact fun q => f.new (List.mem_append_right _ q)
    · exact s.out q hq
theorem adr_set {hs : Hs} {p : Addr} {h h' : HRep} {k : Nat} (hk : hs[k]? = some (p, h)) : adr (hs.set k (p, h')) = adr hs := by
  unfold adr
  rw [List.map_set]
  apply List.ext_getElem?
  intro i
  by_cases e : k = i
  · subst e
    have hl := (List.getElem?_eq_some_iff.mp hk).1
    rw [List.getElem?_set_self (by simpa using hl), List.getElem?_map, hk]
    rfl
  · rw [List.getElem?_set_ne e]
theorem S_set {B : Bs} {hs : Hs} {p : Addr} {h h' : HRep} {k : Nat} (hk : hs[k]? = some (p, h)) : B.S (hs.set k (p, h')) = B.S hs := by unfold Bs.S; rw [adr_set hk]
/-- a place changes -/
theorem Sat.put {p : Addr} {h' : HRep} {k : Nat} {o : HO} (s : Sat B hs es σ H) (hk : hs[k]? = some (p, h)) (hh : h'.P o (msk (B.S hs) H)) : Sat B (hs.set k (p, h')) es σ (upd H p o) := by
  have hm : (p, h) ∈ hs := List.mem_of_getElem? hk
  have hp : p ∈ adr hs := List.mem_map.mpr ⟨_, hm, rfl⟩
  have hS : p ∈ B.S hs := List.mem_append_left _ hp
  have ea : adr (hs.set k (p, h')) = adr hs := by
    unfold adr
    rw [List.map_set]
    apply List.ext_getElem?
    intro i
    by_cases e : k = i
    · subst e
      have hl := (List.getElem?_eq_some_iff.mp hk).1
      rw [List.getElem?_set_self (by simpa using hl), List.getElem?_map, hk]
      rfl
    · rw [List.getElem?_set_ne e]
  have eS : B.S (hs.set k (p, h')) = B.S hs := by unfold Bs.S; rw [ea]
  have nb : B.b ≠ some p := (s.e.ht _ hm).2.1
  have p0 : p ∉ B.S0 := s.out p hp
  refine ⟨⟨by rw [eS]; exact s.e.ok.put hS nb (h'.no hh), by rw [eS, msk_upd hS]; exact s.e.sl, fun x hx => ?_⟩, by rw [ea]; exact s.nd, by rw [ea]; exact s.out, by rw [eS, msk_upd hS]; exact s.dat, fun q hq n => ?_, s.bin, by rw [eS, msk_upd hS]; exact s.gh⟩
  · rw [eS, msk_upd hS]
    obtain ⟨i, hi⟩ := List.getElem?_of_mem hx
    by_cases e : k = i
    · subst e
      have hl := (List.getElem?_eq_some_iff.mp hk).1
      rw [List.getElem?_set_self hl] at hi
      cases hi
      exact ⟨hS, nb, o, upd_same, hh⟩
    · rw [List.getElem?_set_ne e] at hi
      obtain ⟨h1, h2, o1, h3, h4⟩ := s.e.ht x (List.mem_of_getElem? hi)
      have n : x.1 ≠ p := fun ex => by
        have a1 : (adr hs)[k]? = some p := by
          show (hs.map Prod.fst)[k]? = _
          rw [List.getElem?_map, hk]
          rfl
        have a2 : (adr hs)[i]? = some p := by
          show (hs.map Prod.fst)[i]? = _
          rw [List.getElem?_map, hi, ← ex]
          rfl
        exact e ((List.getElem?_inj (List.getElem?_eq_some_iff.mp a1).1 s.nd).mp (a1.trans a2.symm))
      exact ⟨h1, h2, o1, by rw [upd_ne n]; exact h3, h4⟩
  · rw [upd_ne fun e => p0 (by rw [← e]; exact hq)]
    exact s.keep q hq n
theorem w_asg {i : Nat} (h : EV B.b hs es te R) (k : N B hs (es.set i (some R)) D.nx) : N B hs es (tAsg te (gName i) D) := fun σ H s =>
  h _ σ H s.e _ fun v H1 f r => k _ _ ((s.mono f).set i r)
/-- .. opened at once -/
theorem w_asgX {α : Type} {P : α → Prop} {f : α → Rep} {i : Nat} (h : EV B.b hs es te (rEx P f)) (k : ∀ x, P x → N B hs (es.set i (some (f x))) D.nx) : N B hs es (tAsg te (gName i) D) := fun σ H s =>
  h _ σ H s.e _ fun v H1 fr ⟨x, px, r⟩ => k x px _ _ ((s.mono fr).set i r)
theorem w_new {i : Nat} (e : EN B.b hs es te h) (k : ∀ p, N B ((p, h) :: hs) (es.set i (some (rAt p))) D.nx) : N B hs es (tAsg te (gName i) D) := fun σ H s =>
  e _ σ H s.e _ fun p o H1 f ho hh => k p _ _ ((s.add f ho hh).set i rfl)
theorem w_seq (k : N B hs es (t1 { D with nx := t2 D })) : N B hs es (tSeq t1 t2 D) := k
theorem w_if {c : Bool} (h : ETd B.b hs es tt c) (k1 : c = true → N B hs es (t1 D)) (k2 : c = false → N B hs es (t2 D)) : N B hs es (tIfS tt t1 t2 D) := fun σ H s =>
  h _ σ H s.e _ fun k H1 f e => by
    subst e
    cases k with
    | true => rw [if_pos rfl]; exact k1 rfl _ _ (s.mono f)
    | false => rw [if_neg Bool.false_ne_true]; exact k2 rfl _ _ (s.mono f)
theorem w_ifX {P : Bool → Prop} (h : ET B.b hs es tt P) (k1 : P true → N B hs es (t1 D)) (k2 : P false → N B hs es (t2 D)) : N B hs es (tIfS tt t1 t2 D) := fun σ H s =>
  h _ σ H s.e _ fun k H1 f e => by
    cases k with
    | true => rw [if_pos rfl]; exact k1 e _ _ (s.mono f)
    | false => rw [if_neg Bool.false_ne_true]; exact k2 e _ _ (s.mono f)
theorem w_ret (h : EV B.b hs es te R) (k : ∀ v H', Fr B.b B.S0 B.H0 H' → R.P v (msk B.S0 H') → D.rt v H') : N B hs es (tRet te D) := fun σ H s =>
  h _ σ H s.e _ fun v H1 f r => k v H1 (s.mono f).fin (R.up (msk_sub fun q hq => List.mem_append_right _ hq) r)
theorem w_drop (h : EV B.b hs es te R) (k : N B hs es D.nx) : N B hs es (tDrop te D) := fun σ H s => h _ σ H s.e _ fun v H1 f r => k _ _ (s.mono f)
theorem w_next (k : N B hs es D.nx) : N B hs es (tNext D) := k
theorem w_never (k : False) : N B hs es (tNever D) := k.elim
theorem w_par {i j : Nat} (ha : EA B.b hs es tar [Ra, Rb]) (k : N B hs ((es.set i (some Ra)).set j (some Rb)) D.nx) : N B hs es (tPar i j tar D) := fun σ H s =>
  ha _ σ H s.e _ fun vs H1 f r => by
    obtain ⟨x, y, rfl, hx, hy⟩ := all_2 r
    exact ⟨x, y, rfl, k _ _ (((s.mono f).set i hx).set j hy)⟩
/-- a name told as something weaker, opened, or forgotten -/
theorem n_up {i : Nat} (hi : es[i]? = some (some R)) (hr : ∀ v M, R.P v M → Ra.P v M) (k : N B hs (es.set i (some Ra)) T) : N B hs es T := fun σ H s => by
  obtain ⟨v, e1, e2⟩ := s.e.sl.at_ i R hi
  have q := s.set i (hr _ _ e2)
  have e3 : σ.set i (some v) = σ := by
    apply List.ext_getElem?
    intro j
    by_cases hj : i = j
    · subst hj
      rw [List.getElem?_set_self (List.getElem?_eq_some_iff.mp e1).1, e1]
    · rw [List.getElem?_set_ne hj]
  rw [e3] at q
  exact k σ H q
theorem n_ex {α : Type} {P : α → Prop} {f : α → Rep} {i : Nat} (hi : es[i]? = some (some (rEx P f))) (k : ∀ x, P x → N B hs (es.set i (some (f x))) T) : N B hs es T := fun σ H s => by
  obtain ⟨v, e1, x, px, e2⟩ := s.e.sl.at_ i _ hi
  have q := s.set i e2
  have e3 : σ.set i (some v) = σ := by
    apply List.ext_getElem?
    intro j
    by_cases hj : i = j
    · subst hj
      rw [List.getElem?_set_self (List.getElem?_eq_some_iff.mp e1).1, e1]
    · rw [List.getElem?_set_ne hj]
  rw [e3] at q
  exact k x px σ H q
/-- less is known -/
def LeE : Es → Es → Prop
  | [], [] => True
  | _ :: xs, none :: ys => LeE xs ys
  | x :: xs, some r :: ys => x = some r ∧ LeE xs ys
  | _, _ => False
theorem LeE.at_ : ∀ {xs ys : Es}, LeE xs ys → xs.length = ys.length ∧ ∀ (i : Nat) (R : Rep), ys[i]? = some (some R) → xs[i]? = some (some R)
  | [], [], _ => ⟨rfl, fun _ _ h => h⟩
  | x :: xs, none :: ys, h => by
    obtain ⟨h1, h2⟩ := LeE.at_ (xs := xs) (ys := ys) h
    refine ⟨congrArg (· + 1) h1, fun i R e => ?_⟩
    cases i with
    | zero => simp at e
    | succ i => exact h2 i R e
  | x :: xs, some r :: ys, h => by
    obtain ⟨h1, h2⟩ := LeE.at_ (xs := xs) (ys := ys) h.2
    refine ⟨congrArg (· + 1) h1, fun i R e => ?_⟩
    cases i with
    | zero =>
      have e1 : r = R := Option.some.inj (Option.some.inj e)
      show some x = some (some R)
      rw [h.1, e1]
    | succ i => exact h2 i R e
  | [], _ :: _, h => h.elim
  | _ :: _, [], h => h.elim
theorem LeE.refl : ∀ es : Es, LeE es es
  | [] => True.intro
  | none :: es => LeE.refl es
  | some _ :: es => ⟨rfl, LeE.refl es⟩
theorem Sat.less (s : Sat B hs es σ H) (l : LeE es es') : Sat B hs es' σ H :=
  ⟨⟨s.e.ok, ⟨s.e.sl.len.trans l.at_.1, fun i R e => s.e.sl.at_ i R (l.at_.2 i R e)⟩, s.e.ht⟩, s.nd, s.out, s.dat, s.keep, s.bin, s.gh⟩
theorem n_less (l : LeE es es') (k : N B hs es' T) : N B hs es T := fun σ H s => k σ H (s.less l)
theorem adr_erase : ∀ (hs : Hs) (k : Nat), (hs.eraseIdx k).map Prod.fst = (hs.map Prod.fst).eraseIdx k
  | [], _ => rfl
  | x :: xs, 0 => rfl
  | x :: xs, k + 1 => by
    show x.1 :: (xs.eraseIdx k).map Prod.fst = x.1 :: (xs.map Prod.fst).eraseIdx k
    rw [adr_erase xs k]
/-- a place becomes data -/
theorem Sat.cool {p : Addr} {k i : Nat} (s : Sat B hs es σ H) (hk : hs[k]? = some (p, h)) (hi : es[i]? = some (some (rAt p))) : Sat B (hs.eraseIdx k) (es.set i (some (rOf h))) σ H := by
  have hm : (p, h) ∈ hs := List.mem_of_getElem? hk
  obtain ⟨h1, h2, o, h3, h4⟩ := s.e.ht _ hm
  have sub : ∀ q, q ∈ adr (hs.eraseIdx k) → q ∈ adr hs := fun q hq => by
    obtain ⟨x, hx, e⟩ := List.mem_map.mp hq
    exact List.mem_map.mpr ⟨x, List.mem_of_mem_eraseIdx hx, e⟩
  have subS : ∀ q, q ∈ B.S (hs.eraseIdx k) → q ∈ B.S hs := fun q hq => by
    rcases List.mem_append.mp hq with hq | hq
    · exact List.mem_append_left _ (sub q hq)
    · exact List.mem_append_right _ hq
  have up : Same (msk (B.S hs) H) (msk (B.S (hs.eraseIdx k)) H) := msk_sub subS
  have eA : adr (hs.eraseIdx k) = (adr hs).eraseIdx k := by
    exact adr_erase hs k
  have pk : (adr hs)[k]? = some p := by
    show (hs.map Prod.fst)[k]? = _
    rw [List.getElem?_map, hk]
    rfl
  have np : p ∉ B.S (hs.eraseIdx k) := fun q => by
    rcases List.mem_append.mp q with q | q
    · rw [eA] at q
      have hl := (List.getElem?_eq_some_iff.mp pk).1
      obtain ⟨j, hj⟩ := List.getElem?_of_mem q
      rw [List.getElem?_eraseIdx] at hj
      split at hj
      · next hjk => exact absurd ((List.getElem?_inj (List.getElem?_eq_some_iff.mp hj).1 s.nd).mp (hj.trans pk.symm)) (by omega)
      · next hjk => exact absurd ((List.getElem?_inj (List.getElem?_eq_some_iff.mp hj).1 s.nd).mp (hj.trans pk.symm)) (by omega)
    · exact s.out p (List.mem_map.mpr ⟨_, hm, rfl⟩) q
  have ok : HpOk B.b (B.S (hs.eraseIdx k)) H := ⟨fun q hq => s.e.ok.ob q (subS q hq), fun a ha => ⟨List.mem_append_right _ (s.bin a ha), (s.e.ok.bag a ha).2.up up⟩⟩
  have sl := s.e.sl.up up
  obtain ⟨v, e1, e2⟩ := s.e.sl.at_ i _ hi
  have e2' : v = .ref p := e2
  have sl2 := sl.set (v := v) (R := rOf h) i ⟨p, o, e2', (msk_out np).trans h3, h.up up h4⟩
  have e3 : σ.set i (some v) = σ := by
    apply List.ext_getElem?
    intro j
    by_cases hj : i = j
    · subst hj
      rw [List.getElem?_set_self (List.getElem?_eq_some_iff.mp e1).1, e1]
    · rw [List.getElem?_set_ne hj]
  rw [e3] at sl2
  refine ⟨⟨ok, sl2, fun x hx => ?_⟩, ?_, fun q hq => s.out q (sub q hq), s.dat.trans up, s.keep, s.bin, fun g hg => g.2.up up (s.gh g hg)⟩
  · obtain ⟨a1, a2, o1, a3, a4⟩ := s.e.ht x (List.mem_of_mem_eraseIdx hx)
    exact ⟨List.mem_append_left _ (List.mem_map.mpr ⟨x, hx, rfl⟩), a2, o1, a3, x.2.up up a4⟩
  · rw [eA]
    exact s.nd.sublist (List.eraseIdx_sublist _ _)
theorem n_cool {p : Addr} (k i : Nat) (hk : hs[k]? = some (p, h)) (hi : es[i]? = some (some (rAt p))) (q : N B (hs.eraseIdx k) (es.set i (some (rOf h))) T) : N B hs es T := fun σ H s => q σ H (s.cool hk hi)
/-! ### targets -/
/-- g stores a value of R: the slots js get these Reps -/
def GT (b : Option Addr) (g : TG) (R : Rep) (js : List Nat) (f : Es → Es) : Prop := ∀ (S : List Addr) (es : Es) (σ : St) (H : Hp) (v : V), Slots (msk S H) σ es → R.P v (msk S H) → ∀ T : St → Hp → Prop, (∀ σ', Slots (msk S H) σ' (f es) → (∀ (k : Nat), k ∉ js → σ'[k]? = σ[k]?) → σ'.length = σ.length → T σ' H) → g v σ H T
theorem gt_name {i : Nat} : GT b (gName i) R [i] (fun es => es.set i (some R)) := fun S es σ H v s r T q =>
  q _ (s.set i r) (fun k hk => List.getElem?_set_ne fun e => hk (by simp [e])) (by rw [List.length_set])
theorem gt_tup2 {g1 g2 : TG} {R1 R2 : Rep} {js1 js2 : List Nat} {f1 f2 : Es → Es} (h1 : GT b g1 R1 js1 f1) (h2 : GT b g2 R2 js2 f2) : GT b (gTup K 2 (gCons g1 (gCons g2 gNil))) (rT [R1, R2]) (js1 ++ js2) (fun es => f2 (f1 es)) := fun S es σ H v s r T q => by
  obtain ⟨a, vs, e, ha, _, al⟩ := rT_at r
  obtain ⟨x, y, rfl, hx, hy⟩ := all_2 al
  refine ⟨a, [x, y], e, st_of ha, rfl, x, [y], rfl, h1 S es σ H x s hx _ fun σ1 s1 k1 l1 => ⟨y, [], rfl, h2 S (f1 es) σ1 H y s1 hy _ fun σ2 s2 k2 l2 => ⟨rfl, q σ2 s2 (fun k hk => ?_) (l2.trans l1)⟩⟩⟩
  rw [List.mem_append, not_or] at hk
  exact (k2 k hk.2).trans (k1 k hk.1)
theorem all_3 {v : List V} {M : Hp} (h : All2 [Ra, Rb, Rc] v M) : ∃ x y z, v = [x, y, z] ∧ Ra.P x M ∧ Rb.P y M ∧ Rc.P z M := by
  cases v with
  | nil => exact h.elim
  | cons x r =>
    obtain ⟨y, z, rfl, h2, h3⟩ := all_2 h.2
    exact ⟨x, y, z, rfl, h.1, h2, h3⟩
theorem gt_unl2 {g1 g2 : TG} {R1 R2 : Rep} {js1 js2 : List Nat} {f1 f2 : Es → Es} (h1 : GT b g1 R1 js1 f1) (h2 : GT b g2 R2 js2 f2) : GT b (gUnl K 2 (gCons g1 (gCons g2 gNil))) (rL [R1, R2]) (js1 ++ js2) (fun es => f2 (f1 es)) := fun S es σ H v s r T q => by
  obtain ⟨a, vs, e, ha, _, al⟩ := rL_at r
  obtain ⟨x, y, rfl, hx, hy⟩ := all_2 al
  refine ⟨a, [x, y], e, sq_of ha, rfl, x, [y], rfl, h1 S es σ H x s hx _ fun σ1 s1 k1 l1 => ⟨y, [], rfl, h2 S (f1 es) σ1 H y s1 hy _ fun σ2 s2 k2 l2 => ⟨rfl, q σ2 s2 (fun k hk => ?_) (l2.trans l1)⟩⟩⟩
  rw [List.mem_append, not_or] at hk
  exact (k2 k hk.2).trans (k1 k hk.1)
theorem gt_unl3 {g1 g2 g3 : TG} {R1 R2 R3 : Rep} {js1 js2 js3 : List Nat} {f1 f2 f3 : Es → Es} (h1 : GT b g1 R1 js1 f1) (h2 : GT b g2 R2 js2 f2) (h3 : GT b g3 R3 js3 f3) : GT b (gUnl K 3 (gCons g1 (gCons g2 (gCons g3 gNil)))) (rL [R1, R2, R3]) (js1 ++ (js2 ++ js3)) (fun es => f3 (f2 (f1 es))) := fun S es σ H v s r T q => by
  obtain ⟨a, vs, e, ha, _, al⟩ := rL_at r
  obtain ⟨x, y, z, rfl, hx, hy, hz⟩ := all_3 al
  refine ⟨a, [x, y, z], e, sq_of ha, rfl, x, [y, z], rfl, h1 S es σ H x s hx _ fun σ1 s1 k1 l1 => ⟨y, [z], rfl, h2 S (f1 es) σ1 H y s1 hy _ fun σ2 s2 k2 l2 => ⟨z, [], rfl, h3 S _ σ2 H z s2 hz _ fun σ3 s3 k3 l3 => ⟨rfl, q σ3 s3 (fun k hk => ?_) (l3.trans (l2.trans l1))⟩⟩⟩⟩
  rw [List.mem_append, List.mem_append, not_or, not_or] at hk
  exact (k3 k hk.2.2).trans ((k2 k hk.2.1).trans (k1 k hk.1))
theorem w_asgG {g : TG} {js : List Nat} {f : Es → Es} (h : EV B.b hs es te R) (hg : GT B.b g R js f) (k : N B hs (f es) D.nx) : N B hs es (tAsg te g D) := fun σ H s =>
  h _ σ H s.e _ fun v H1 fr r => hg _ es σ H1 v (s.mono fr).e.sl r _ fun σ' s' _ _ => k σ' H1 ⟨⟨(s.mono fr).e.ok, s', (s.mono fr).e.ht⟩, s.nd, s.out, (s.mono fr).dat, (s.mono fr).keep, s.bin, (s.mono fr).gh⟩
/-! ### what is walked -/
/-- wi walks n items, the i-th of the Rep its i; G says what must stand -/
def SRC1 (b : Option Addr) (S : List Addr) (hs : Hs) (es : Es) (wi : TI) (rs : List Rep) : Prop := ∀ (σ : St) (H : Hp), SatE b S hs es σ H → ∀ Rk : It → Hp → Prop,
  (∀ (J : It) (H1 : Hp) (G : Rep) (Y : Nat → Hp → V → Hp → Prop), Fr b S H H1 → G.P .non (msk S H1) → Walk J rs.length (fun H => ∃ S', G.P .non (msk S' H)) Y →
    (∀ (S' : List Addr) (i : Nat) (R : Rep) (Hx : Hp) (x : V) (Hy : Hp), rs[i]? = some R → HpOk b S' Hx → G.P .non (msk S' Hx) → Y i Hx x Hy → Fr b S' Hx Hy ∧ R.P x (msk S' Hy)) → Rk J H1) → wi σ H Rk
def SRC (b : Option Addr) (hs : Hs) (es : Es) (wi : TI) (rs : List Rep) : Prop := ∀ (S : List Addr), SRC1 b S hs es wi rs
theorem src_list {rs : List Rep} (ha : EV b hs es ta (rL rs)) : SRC b hs es (iList K ta) rs := fun S σ H s Rk q => ha S σ H s _ fun v H1 f r => by
  obtain ⟨a, vs, e, hv, hS, al⟩ := rL_at r
  refine ⟨a, e, ⟨vs, sq_of hv⟩, q _ H1 ⟨fun _ M => M a = some (.lst vs) ∧ All2 rs vs M, fun s h => ⟨s _ _ h.1, h.2.up s⟩⟩ (YAt vs) f ⟨(msk_out hS).trans hv, al⟩ ?_ ?_⟩
  · rw [← al.len]
    exact walk_list.mono (fun H ⟨S', h⟩ => sq_of (msk_same _ _ h.1)) fun _ _ _ _ _ _ h => h
  · intro S' i R Hx x Hy hi k hG y
    obtain ⟨e1, e2⟩ := y
    subst e1
    obtain ⟨w', hw, rw'⟩ := hG.2.get i hi
    cases e2.symm.trans hw
    exact ⟨Fr.refl k, rw'⟩
theorem src_tup {rs : List Rep} (ha : EV b hs es ta (rT rs)) : SRC b hs es (iTup K ta) rs := fun S σ H s Rk q => ha S σ H s _ fun v H1 f r => by
  obtain ⟨a, vs, e, hv, hS, al⟩ := rT_at r
  refine ⟨a, e, ⟨vs, st_of hv⟩, q _ H1 ⟨fun _ M => M a = some (.tup vs) ∧ All2 rs vs M, fun s h => ⟨s _ _ h.1, h.2.up s⟩⟩ (YAt vs) f ⟨(msk_out hS).trans hv, al⟩ ?_ ?_⟩
  · rw [← al.len]
    exact walk_tup.mono (fun H ⟨S', h⟩ => st_of (msk_same _ _ h.1)) fun _ _ _ _ _ _ h => h
  · intro S' i R Hx x Hy hi k hG y
    obtain ⟨e1, e2⟩ := y
    subst e1
    obtain ⟨w', hw, rw'⟩ := hG.2.get i hi
    cases e2.symm.trans hw
    exact ⟨Fr.refl k, rw'⟩
theorem src_seqL {rs : List Rep} (ha : EV b hs es ta (rL rs)) : SRC b hs es (iSeq K ta) rs := fun S σ H s Rk q => ha S σ H s _ fun v H1 f r => by
  obtain ⟨a, vs, e, hv, hS, al⟩ := rL_at r
  refine ⟨a, e, Or.inl ⟨⟨vs, sq_of hv⟩, q _ H1 ⟨fun _ M => M a = some (.lst vs) ∧ All2 rs vs M, fun s h => ⟨s _ _ h.1, h.2.up s⟩⟩ (YAt vs) f ⟨(msk_out hS).trans hv, al⟩ ?_ ?_⟩⟩
  · rw [← al.len]
    exact walk_list.mono (fun H ⟨S', h⟩ => sq_of (msk_same _ _ h.1)) fun _ _ _ _ _ _ h => h
  · intro S' i R Hx x Hy hi k hG y
    obtain ⟨e1, e2⟩ := y
    subst e1
    obtain ⟨w', hw, rw'⟩ := hG.2.get i hi
    cases e2.symm.trans hw
    exact ⟨Fr.refl k, rw'⟩
theorem src_seqT {rs : List Rep} (ha : EV b hs es ta (rT rs)) : SRC b hs es (iSeq K ta) rs := fun S σ H s Rk q => ha S σ H s _ fun v H1 f r => by
  obtain ⟨a, vs, e, hv, hS, al⟩ := rT_at r
  refine ⟨a, e, Or.inr ⟨⟨vs, st_of hv⟩, q _ H1 ⟨fun _ M => M a = some (.tup vs) ∧ All2 rs vs M, fun s h => ⟨s _ _ h.1, h.2.up s⟩⟩ (YAt vs) f ⟨(msk_out hS).trans hv, al⟩ ?_ ?_⟩⟩
  · rw [← al.len]
    exact walk_tup.mono (fun H ⟨S', h⟩ => st_of (msk_same _ _ h.1)) fun _ _ _ _ _ _ h => h
  · intro S' i R Hx x Hy hi k hG y
    obtain ⟨e1, e2⟩ := y
    subst e1
    obtain ⟨w', hw, rw'⟩ := hG.2.get i hi
    cases e2.symm.trans hw
    exact ⟨Fr.refl k, rw'⟩
/-- range(n) -/
theorem src_range {n : Int} (ha : EA b hs es tar [rInt n]) (h0 : n < 2 ^ 62) (h1 : -(2 ^ 62) ≤ n) : SRC b hs es (iRng1 tar) ((List.range n.toNat).map fun i => rInt (i : Nat)) := fun S σ H s Rk q => ha S σ H s _ fun vs H1 f r => by
  obtain ⟨x, rfl, hx⟩ := all1 r
  refine ⟨n, by rw [show x = _ from hx], h1, h0, q _ H1 rAny (YFn fun i => .int (0 + i)) f True.intro ?_ ?_⟩
  · rw [List.length_map, List.length_range]
    exact walk_range.mono (fun _ _ => True.intro) fun _ _ _ _ _ _ h => h
  · intro S' i R Hx x Hy hi k hG y
    obtain ⟨e1, e2⟩ := y
    subst e1
    rw [List.getElem?_map] at hi
    obtain ⟨j, hj, e⟩ := Option.map_eq_some_iff.mp hi
    have hj' : i = j := by
      obtain ⟨hl, e'⟩ := List.getElem?_eq_some_iff.mp hj
      simpa using e'
    subst hj'
    subst e
    have e3 : x = V.int (0 + (i : Int)) := e2
    rw [Int.zero_add] at e3
    exact ⟨Fr.refl k, e3⟩
theorem src_str {z : Str} (ha : EV b hs es ta (rStr z)) : SRC b hs es (iStr ta) (z.cps.toList.map fun c => rStr ⟨#[c]⟩) := fun S σ H s Rk q => ha S σ H s _ fun v H1 f r => by
  refine ⟨z, r, q _ H1 rAny (fun i H v H' => H' = H ∧ ∃ c, z.cps[i]? = some c ∧ v = .str ⟨#[c]⟩) f True.intro ?_ ?_⟩
  · rw [List.length_map, Array.length_toList]
    exact walk_str.mono (fun _ _ => True.intro) fun _ _ _ _ _ _ h => h
  · intro S' i R Hx x Hy hi k hG y
    obtain ⟨e1, c, e2, e3⟩ := y
    subst e1
    rw [List.getElem?_map, Array.getElem?_toList, e2] at hi
    cases hi
    exact ⟨Fr.refl k, e3⟩
theorem fr_pair {S' : List Addr} {Hx : Hp} {T : Addr} {x y : V} {r1 r2 : Rep} (k : HpOk b S' Hx) (hT : Hx T = none) (h1 : r1.P x (msk S' Hx)) (h2 : r2.P y (msk S' Hx)) : Fr b S' Hx (upd Hx T (.tup [x, y])) ∧ (rT [r1, r2]).P (.ref T) (msk S' (upd Hx T (.tup [x, y]))) :=
  ⟨Fr.new k hT, T, [x, y], rfl, (msk_out (new_out k hT)).trans upd_same, r1.up (msk_new hT) h1, r2.up (msk_new hT) h2, True.intro⟩
theorem src_enum {α : Type} {Gf : α → Rep} {xs : List α} (ha : EA b hs es tar [rL (xs.map Gf)]) : SRC b hs es (iEnum K tar) (xs.zipIdx.map fun p => rT [rInt (p.2 : Nat), Gf p.1]) := fun S σ H s Rk q => ha S σ H s _ fun vs H1 f r => by
  obtain ⟨v, rfl, hx⟩ := all1 r
  obtain ⟨a, ws, e, hv, hS, al⟩ := rL_at hx
  refine ⟨a, ws, by rw [e], sq_of hv, q _ H1 ⟨fun _ M => M a = some (.lst ws) ∧ All2 (xs.map Gf) ws M, fun s h => ⟨s _ _ h.1, h.2.up s⟩⟩ (YPair (fun i => some (.int (i : Nat))) (fun i => ws[i]?)) f ⟨(msk_out hS).trans hv, al⟩ ?_ ?_⟩
  · rw [List.length_map, List.length_zipIdx, ← List.length_map (f := Gf), ← al.len]
    exact walk_enum.mono (fun H ⟨S', h⟩ => sq_of (msk_same _ _ h.1)) fun _ _ _ _ _ _ h => h
  · intro S' i R Hx x Hy hi k hG y
    obtain ⟨T, u, w', e1, e2, e3, e4, e5⟩ := y
    cases e4
    subst e1 e3
    rw [List.getElem?_map] at hi
    obtain ⟨p, hp, e⟩ := Option.map_eq_some_iff.mp hi
    subst e
    rw [List.getElem?_zipIdx] at hp
    obtain ⟨r0, h0, ep⟩ := Option.map_eq_some_iff.mp hp
    subst ep
    obtain ⟨w2, hw, rw2⟩ := hG.2.get i (r := Gf r0) (by rw [List.getElem?_map, h0]; rfl)
    cases e5.symm.trans hw
    exact fr_pair k e2 (by show V.int _ = V.int _; rw [Nat.zero_add]) rw2
end
end L2.K9A
end
section
set_option Elab.async false
set_option linter.all false
set_option maxRecDepth 100000
set_option maxHeartbeats 2000000
namespace L2.K9A
open PySem PySem.Spec PyProof.Rows L2 L2.K9R
section
variable {B : Bs} {b : Option Addr} {S : List Addr} {hs hs' : Hs} {es es' : Es} {σ : St} {H H1 H' : Hp} {ta tb tc te tk tv : TE} {tt tu : TT} {tar : TA} {R Ra Rb Rc : Rep} {K : PySem.W.Frag} {h : HRep} {D : Ends} {t1 t2 tbd : TS} {T : St → Hp → Prop} {wi : TI} {g : TG}
/-! ### loops -/
def Inv {α : Type} (B : Bs) (I : Nat → α → Prop) (hsI : α → Hs) (esI : α → Es) (i : Nat) : St → Hp → Prop := fun σ H => ∃ x, I i x ∧ Sat B (hsI x) (esI x) σ H
theorem n_inv {α : Type} {I : Nat → α → Prop} {hsI : α → Hs} {esI : α → Es} {i : Nat} (x : α) (hi : I i x) (eh : hs = hsI x) (le : LeE es (esI x)) : N B hs es (Inv B I hsI esI i) := fun σ H s => by
  subst eh
  exact ⟨x, hi, s.less le⟩
theorem Sat.ghost {g : V × Rep} (s : Sat B hs es σ H) (hg : g.2.P g.1 (msk (B.S hs) H)) : Sat { B with gs := g :: B.gs } hs es σ H :=
  ⟨s.e, s.nd, s.out, s.dat, s.keep, s.bin, fun q hq => by
    rcases List.mem_cons.mp hq with e | hq
    · subst e
      exact hg
    · exact s.gh q hq⟩
theorem Sat.noghost {g : V × Rep} (s : Sat { B with gs := g :: B.gs } hs es σ H) : Sat B hs es σ H := ⟨s.e, s.nd, s.out, s.dat, s.keep, s.bin, fun q hq => s.gh q (List.mem_cons_of_mem _ hq)⟩
theorem w_for1 {α β : Type} {F : β → Rep} {js : List Nat} {f : β → Es → Es} {ys : List β} (src : SRC1 B.b (B.S hs) hs es wi (ys.map F)) (I : Nat → α → Prop) (hsI : α → Hs) (esI : α → Es) (x0 : α) (h0 : I 0 x0) (eh : hs = hsI x0) (le : LeE es (esI x0)) (hg : ∀ y ∈ ys, GT B.b g (F y) js (f y))
    (turn : ∀ (gs : List (V × Rep)) (i : Nat) (y : β) (x : α), ys[i]? = some y → I i x → N { B with gs := gs } (hsI x) (f y (esI x)) (tbd { D with nx := Inv { B with gs := gs } I hsI esI (i + 1), ct := Inv { B with gs := gs } I hsI esI (i + 1), bk := D.nx }))
    (done : ∀ x, I ys.length x → N B (hsI x) (esI x) D.nx) : N B hs es (tFor wi g tbd D) := fun σ H s => by
  refine src σ H s.e _ fun J H1 G Y fr hG wk hY => ?_
  have s1 := (s.mono fr).ghost (g := (.non, G)) hG
  subst eh
  rw [List.length_map] at wk
  refine for_it wk (Inv { B with gs := (.non, G) :: B.gs } I hsI esI) ⟨x0, h0, s1.less le⟩ (fun i σ' H' hi p => ?_) (fun i v σ' Hx Hy hi p y => ?_) (fun σ' H' p => ?_)
  · obtain ⟨x, ix, sx⟩ := p
    exact ⟨_, sx.gh _ List.mem_cons_self⟩
  · obtain ⟨x, ix, sx⟩ := p
    have hR : ys[i]? = some ys[i] := List.getElem?_eq_getElem hi
    obtain ⟨f1, r1⟩ := hY _ i (F ys[i]) Hx v Hy (by rw [List.getElem?_map, hR]; rfl) sx.e.ok (sx.gh _ List.mem_cons_self) y
    have s2 := sx.mono f1
    refine hg _ (List.getElem_mem hi) _ _ σ' Hy v s2.e.sl r1 _ fun σ2 sl2 _ _ => ?_
    exact turn _ i _ x hR ix σ2 Hy ⟨⟨s2.e.ok, sl2, s2.e.ht⟩, s2.nd, s2.out, s2.dat, s2.keep, s2.bin, s2.gh⟩
  · obtain ⟨x, ix, sx⟩ := p
    exact done x ix σ' H' sx.noghost
theorem w_for {α β : Type} {F : β → Rep} {js : List Nat} {f : β → Es → Es} {ys : List β} (src : SRC B.b hs es wi (ys.map F)) (I : Nat → α → Prop) (hsI : α → Hs) (esI : α → Es) (x0 : α) (h0 : I 0 x0) (eh : hs = hsI x0) (le : LeE es (esI x0)) (hg : ∀ y ∈ ys, GT B.b g (F y) js (f y))
    (turn : ∀ (gs : List (V × Rep)) (i : Nat) (y : β) (x : α), ys[i]? = some y → I i x → N { B with gs := gs } (hsI x) (f y (esI x)) (tbd { D with nx := Inv { B with gs := gs } I hsI esI (i + 1), ct := Inv { B with gs := gs } I hsI esI (i + 1), bk := D.nx }))
    (done : ∀ x, I ys.length x → N B (hsI x) (esI x) D.nx) : N B hs es (tFor wi g tbd D) := w_for1 (src _) I hsI esI x0 h0 eh le hg turn done
/-- break: what follows the loop, the loop's own facts forgotten -/
theorem n_drop {gs : List (V × Rep)} (k : N { B with gs := [] } hs es T) : N { B with gs := gs } hs es T := fun σ H s => k σ H ⟨s.e, s.nd, s.out, s.dat, s.keep, s.bin, fun g hg => by cases hg⟩
theorem w_while {α : Type} (I : Nat → α → Prop) (hsI : α → Hs) (esI : α → Es) (m0 : Nat) (x0 : α) (h0 : I m0 x0) (eh : hs = hsI x0) (le : LeE es (esI x0))
    (turn : ∀ (m : Nat) (x : α), I m x → ∃ c, ETd B.b (hsI x) (esI x) tt c ∧ (c = true → N B (hsI x) (esI x) (tbd { D with nx := fun σ H => ∃ m', m' < m ∧ Inv B I hsI esI m' σ H, ct := fun σ H => ∃ m', m' < m ∧ Inv B I hsI esI m' σ H, bk := D.nx })) ∧ (c = false → N B (hsI x) (esI x) D.nx)) : N B hs es (tWhile tt tbd D) := fun σ H s => by
  subst eh
  refine ⟨fun m => Inv B I hsI esI m, ⟨m0, x0, h0, s.less le⟩, fun m σ' H' w => ?_⟩
  obtain ⟨x, ix, sx⟩ := w
  obtain ⟨c, hc, k1, k2⟩ := turn m x ix
  refine hc _ σ' H' sx.e _ fun k H1 f e => ?_
  subst e
  cases k with
  | true =>
    rw [if_pos rfl]
    exact ⟨fun σ H => ∃ m', m' < m ∧ Inv B I hsI esI m' σ H, fun _ _ n => n, k1 rfl _ _ (sx.mono f)⟩
  | false =>
    rw [if_neg Bool.false_ne_true]
    exact k2 rfl _ _ (sx.mono f)
theorem n_wh {α : Type} {I : Nat → α → Prop} {hsI : α → Hs} {esI : α → Es} {m m' : Nat} (x : α) (hm : m' < m) (hi : I m' x) (eh : hs = hsI x) (le : LeE es (esI x)) : N B hs es (fun σ H => ∃ m', m' < m ∧ Inv B I hsI esI m' σ H) := fun σ H s => by
  subst eh
  exact ⟨m', hm, x, hi, s.less le⟩
/-! ### comprehensions -/
theorem wipe_get (σ : St) : ∀ (vs : List Nat) (k : Nat), (wipe σ vs)[k]? = if k ∈ vs then (σ[k]?).map (fun _ => none) else σ[k]?
  | [], k => by simp [wipe]
  | v :: vs, k => by
    have ih := wipe_get σ vs
    unfold wipe
    by_cases e : v = k
    · subst e
      rw [if_pos List.mem_cons_self]
      by_cases hl : v < σ.length
      · rw [List.getElem?_set_self (by rw [wipe_length]; exact hl), List.getElem?_eq_getElem hl]
        rfl
      · rw [List.getElem?_eq_none (by rw [List.length_set, wipe_length]; omega), List.getElem?_eq_none (by omega)]
        rfl
    · rw [List.getElem?_set_ne e, ih k]
      by_cases h : k ∈ vs
      · rw [if_pos h, if_pos (List.mem_cons_of_mem _ h)]
      · rw [if_neg h, if_neg (fun q => (List.mem_cons.mp q).elim (fun x => e x.symm) h)]
theorem wipe_eq {σ σ' : St} {vs : List Nat} (h : ∀ k, k ∉ vs → σ'[k]? = (wipe σ vs)[k]?) (l : σ'.length = (wipe σ vs).length) : wipe σ' vs = wipe σ vs := by
  apply List.ext_getElem?
  intro k
  rw [wipe_get]
  by_cases hk : k ∈ vs
  · rw [if_pos hk, wipe_get, if_pos hk]
    have l' : σ'.length = σ.length := by rw [l, wipe_length]
    by_cases hl : k < σ.length
    · have e1 : σ[k]? = some σ[k] := List.getElem?_eq_getElem hl
      have e2 : σ'[k]? = some (σ'[k]'(by omega)) := List.getElem?_eq_getElem (by omega)
      rw [e1, e2]
      rfl
    · have e1 : σ[k]? = none := List.getElem?_eq_none (by omega)
      have e2 : σ'[k]? = none := List.getElem?_eq_none (by omega)
      rw [e1, e2]
  · rw [if_neg hk, h k hk]
def wipeE (es : Es) : List Nat → Es
  | [] => es
  | v :: vs => (wipeE es vs).set v none
theorem Slots.wipe {M : Hp} (s : Slots M σ es) : ∀ vs : List Nat, Slots M (wipe σ vs) (wipeE es vs)
  | [] => s
  | v :: vs => by
    have ih := Slots.wipe s vs
    unfold L2.wipe wipeE
    refine ⟨by rw [List.length_set, List.length_set, ih.len], fun i R e => ?_⟩
    by_cases hv : v = i
    · subst hv
      have hl := (List.getElem?_eq_some_iff.mp e).1
      rw [List.length_set] at hl
      rw [List.getElem?_set_self hl] at e
      cases e
    · rw [List.getElem?_set_ne hv] at e ⊢
      exact ih.at_ i R e
/-- what stands at a new list while it is being made, the data around -/
def EN1 (b : Option Addr) (S : List Addr) (hs : Hs) (es : Es) (te : TE) (h : HRep) : Prop := ∀ (σ : L2.St) (H : Hp), SatE b S hs es σ H → ∀ Q : VK, (∀ p o H', FrN b S H p H' → H' p = some o → h.P o (msk (p :: S) H') → Q (.ref p) H') → te σ H Q
theorem en_lcX1 {β : Type} {F : β → Rep} {js vs : List Nat} {f : β → Es → Es} {ys : List β} (src : SRC1 b S hs es wi (ys.map F)) (hg : ∀ y ∈ ys, GT b g (F y) js (f y)) (hj : ∀ j, j ∈ js → j ∈ vs)
    (Acc : Nat → List Rep → Prop) (a0 : Acc 0 []) (hl : ys.length ≤ 100000)
    (turn : ∀ (i : Nat) (y : β) (acc : List Rep), ys[i]? = some y → Acc i acc → ∃ (P : Bool → Prop) (r : Rep), ET b hs (f y (wipeE es vs)) tt P ∧ (P true → EV b hs (f y (wipeE es vs)) te r ∧ ∀ v M, r.P v M → ∃ r' : Rep, r'.P v M ∧ Acc (i + 1) (acc ++ [r'])) ∧ (P false → Acc (i + 1) acc))
    (done : ∀ acc, Acc ys.length acc → ∀ o M, (hL acc).P o M → h.P o M) : EN1 b S hs es (tLc wi g tt te vs) h := fun σ H s Q q => by
  refine src σ H s _ fun J H1 G Y fr hG wk hY => fun D hD => ?_
  rw [List.length_map] at wk
  have s1 := s.mono fr
  have hDS := fr.back hD
  have hDo : D ∉ S := hDS.1
  -- the state of the loop
  refine lc_it wk (fun i H2 => FrN b S H D H2 ∧ i ≤ ys.length ∧ Same (msk S H1) (msk (D :: S) H2) ∧ ∃ acc vs', acc.length ≤ i ∧ Acc i acc ∧ H2 D = some (.lst vs') ∧ All2 acc vs' (msk (D :: S) H2)) ⟨FrN.mk' fr hD rfl, Nat.zero_le _, by rw [msk_cons hD]; exact Same.refl _, [], [], Nat.le_refl _, a0, upd_same, True.intro⟩ ?_ ?_ ?_
  · intro i H2 hi p
    exact ⟨_, G.up p.2.2.1 hG⟩
  · intro i x Hx Hy hi p y
    obtain ⟨fn, hle, sm, acc, vs', hal, hacc, hDx, hall⟩ := p
    have hR : ys[i]? = some ys[i] := List.getElem?_eq_getElem hi
    have okS : HpOk b S Hx := (fn.fr s.ok).ok
    obtain ⟨f1', r1'⟩ := hY (D :: S) i (F ys[i]) Hx x Hy (by rw [List.getElem?_map, hR]; rfl) fn.ok (G.up sm hG) y
    obtain ⟨P, r, ht, he, hn⟩ := turn i _ acc hR hacc
    have stx : SatE b (D :: S) hs (wipeE es vs) (wipe σ vs) Hy := by
      refine ⟨f1'.ok, ((s.sl.up fn.dat).up f1'.dat).wipe vs, fun z hz => ?_⟩
      obtain ⟨h1, h2, o, h3, h4⟩ := s.ht z hz
      exact ⟨List.mem_cons_of_mem _ h1, h2, o, (f1'.hot _ (List.mem_cons_of_mem _ h1) h2).trans ((fn.hot _ h1 h2).trans h3), z.2.up (fn.dat.trans f1'.dat) h4⟩
    refine hg _ (List.getElem_mem hi) (D :: S) _ _ Hy x stx.sl r1' _ fun σ2 sl2 k2 l2 => ⟨wipe_eq (fun k hk => k2 k fun q => hk (hj k q)) l2, ?_⟩
    have bD : b ≠ some D := fun e => hDo (s.ok.bag D e).1
    have stx2 : SatE b (D :: S) hs _ σ2 Hy := ⟨stx.ok, sl2, stx.ht⟩
    -- from any later heap back to the state
    have back : ∀ H5, Fr b (D :: S) Hx H5 → FrN b S H D H5 ∧ Same (msk S H1) (msk (D :: S) H5) := fun H5 f5 =>
      ⟨⟨fn.new, f5.ok, fn.dat.trans f5.dat, fun z hz n => (f5.hot z (List.mem_cons_of_mem _ hz) n).trans (fn.hot z hz n)⟩, sm.trans f5.dat⟩
    refine ht _ σ2 Hy stx2 _ fun c H3 f3 pc => ?_
    have f13 := f1'.trans f3
    cases c with
    | false =>
      rw [if_neg Bool.false_ne_true]
      exact ⟨(back H3 f13).1, hi, (back H3 f13).2, acc, vs', Nat.le_succ_of_le hal, hn pc, (f13.hot D List.mem_cons_self bD).trans hDx, hall.up f13.dat⟩
    | true =>
      rw [if_pos rfl]
      obtain ⟨hev, hup⟩ := he pc
      refine hev _ σ2 H3 (stx2.mono f3) _ fun v H4 f4 rv => ?_
      have f14 := f13.trans f4
      obtain ⟨r', hr', hA⟩ := hup _ _ rv
      refine ⟨vs', (f14.hot D List.mem_cons_self bD).trans hDx, ?_, ?_⟩
      · rw [hall.len]
        exact Nat.lt_of_le_of_lt (Nat.le_trans hal (Nat.le_trans hle hl)) (by decide)
      · have f15 : Fr b (D :: S) Hx (upd H4 D (.lst (vs' ++ [v]))) → True := fun _ => True.intro
        have b4 := back H4 f14
        have ok5 : HpOk b (D :: S) (upd H4 D (.lst (vs' ++ [v]))) := f14.ok.put List.mem_cons_self bD rfl
        have em : msk (D :: S) (upd H4 D (.lst (vs' ++ [v]))) = msk (D :: S) H4 := msk_upd List.mem_cons_self
        refine ⟨⟨fn.new, ok5, by rw [em]; exact b4.1.dat, fun z hz n => ?_⟩, hi, by rw [em]; exact b4.2, acc ++ [r'], vs' ++ [v], by rw [List.length_append]; show acc.length + 1 ≤ _; omega, hA, upd_same, by rw [em]; exact All2.snoc hr' (hall.up f14.dat)⟩
        rw [upd_ne fun e => hDo (by rw [← e]; exact hz)]
        exact b4.1.hot z hz n
  · intro H2 p
    obtain ⟨fn, hle, sm, acc, vs', hal, hacc, hDx, hall⟩ := p
    exact q D _ H2 fn hDx (done acc hacc _ _ ⟨vs', rfl, hall⟩)
theorem en_lcX {β : Type} {F : β → Rep} {js vs : List Nat} {f : β → Es → Es} {ys : List β} (src : SRC b hs es wi (ys.map F)) (hg : ∀ y ∈ ys, GT b g (F y) js (f y)) (hj : ∀ j, j ∈ js → j ∈ vs)
    (Acc : Nat → List Rep → Prop) (a0 : Acc 0 []) (hl : ys.length ≤ 100000)
    (turn : ∀ (i : Nat) (y : β) (acc : List Rep), ys[i]? = some y → Acc i acc → ∃ (P : Bool → Prop) (r : Rep), ET b hs (f y (wipeE es vs)) tt P ∧ (P true → EV b hs (f y (wipeE es vs)) te r ∧ ∀ v M, r.P v M → ∃ r' : Rep, r'.P v M ∧ Acc (i + 1) (acc ++ [r'])) ∧ (P false → Acc (i + 1) acc))
    (done : ∀ acc, Acc ys.length acc → ∀ o M, (hL acc).P o M → h.P o M) : EN b hs es (tLc wi g tt te vs) h := fun S => en_lcX1 (src S) hg hj Acc a0 hl turn done
/-- [e x for x in xs if f x] -/
theorem en_lc1 {α : Type} {F : α → Rep} {js vs : List Nat} {f : α → Es → Es} (xs : List α) (c : α → Bool) (r : α → Rep) (src : SRC1 b S hs es wi (xs.map F)) (hg : ∀ x ∈ xs, GT b g (F x) js (f x)) (hj : ∀ j, j ∈ js → j ∈ vs) (hl : xs.length ≤ 100000)
    (ht : ∀ x ∈ xs, ETd b hs (f x (wipeE es vs)) tt (c x)) (he : ∀ x ∈ xs, c x = true → EV b hs (f x (wipeE es vs)) te (r x)) : EN1 b S hs es (tLc wi g tt te vs) (hL ((xs.filter c).map r)) := by
  refine en_lcX1 src hg hj (fun i acc => acc = ((xs.take i).filter c).map r) rfl hl ?_ ?_
  · rintro i x acc hx rfl
    have hm : x ∈ xs := List.mem_of_getElem? hx
    have et : xs.take (i + 1) = xs.take i ++ [x] := by
      rw [List.take_add_one, hx]
      rfl
    refine ⟨_, r x, ht x hm, fun e => ⟨he x hm e.symm, fun v M rv => ⟨r x, rv, ?_⟩⟩, fun e => ?_⟩
    · rw [et, List.filter_append, List.map_append, List.filter_cons, if_pos e.symm]
      rfl
    · rw [et, List.filter_append, List.map_append, List.filter_cons, if_neg (by rw [← e]; exact Bool.false_ne_true)]
      simp
  · rintro acc rfl o M hh
    rw [List.take_length] at hh
    exact hh
theorem en_lc {α : Type} {F : α → Rep} {js vs : List Nat} {f : α → Es → Es} (xs : List α) (c : α → Bool) (r : α → Rep) (src : SRC b hs es wi (xs.map F)) (hg : ∀ x ∈ xs, GT b g (F x) js (f x)) (hj : ∀ j, j ∈ js → j ∈ vs) (hl : xs.length ≤ 100000)
    (ht : ∀ x ∈ xs, ETd b hs (f x (wipeE es vs)) tt (c x)) (he : ∀ x ∈ xs, c x = true → EV b hs (f x (wipeE es vs)) te (r x)) : EN b hs es (tLc wi g tt te vs) (hL ((xs.filter c).map r)) := fun S => en_lc1 xs c r (src S) hg hj hl ht he
/-- without a test -/
theorem en_lcA {α : Type} {F : α → Rep} {js vs : List Nat} {f : α → Es → Es} (xs : List α) (r : α → Rep) (src : SRC b hs es wi (xs.map F)) (hg : ∀ x ∈ xs, GT b g (F x) js (f x)) (hj : ∀ j, j ∈ js → j ∈ vs) (hl : xs.length ≤ 100000)
    (he : ∀ x ∈ xs, EV b hs (f x (wipeE es vs)) te (r x)) : EN b hs es (tLc wi g tYes te vs) (hL (xs.map r)) := by
  have q := en_lc (tt := tYes) xs (fun _ => true) r src hg hj hl (fun x _ => et_yes) (fun x hx _ => he x hx)
  have e : xs.filter (fun _ => true) = xs := List.filter_eq_self.mpr fun _ _ => rfl
  rw [e] at q
  exact q
end
end L2.K9A
end
section
set_option Elab.async false
set_option linter.all false
set_option maxRecDepth 100000
set_option maxHeartbeats 2000000
namespace L2.K9A
open PySem PySem.Spec PyProof.Rows L2 L2.K9R
open C8 (Cal Met pe_c pe_mt pe_mt0 InsC call_isC pe_gc)
section
variable {P : Program} {w : World} {K : PySem.W.Frag} {mg : Str → Option Value} {base : Heap} {x qual : Str} {params : Arguments} {body : List Stmt} {scope : Scope} {kws : List (Str × V)} {f : Addr} {fd : FuncData} {Nm ps : List Str} {k : Nat}
abbrev esOf (Nm : List Str) (rs : List Rep) : Es := rs.map some ++ List.replicate (Nm.length - rs.length) none
theorem start_slots {M : Hp} (Nm : List Str) : ∀ {rs : List Rep} {vs : List V}, All2 rs vs M → vs.length = rs.length → Slots M (start Nm vs) (esOf Nm rs) := fun {rs vs} al hl => by
  unfold start esOf
  refine ⟨by simp [hl], fun i R e => ?_⟩
  by_cases hi : i < rs.length
  · rw [List.getElem?_append_left (by simpa using hi)] at e
    rw [List.getElem?_map] at e
    obtain ⟨R', hR, e'⟩ := Option.map_eq_some_iff.mp e
    cases e'
    obtain ⟨v, hv, rv⟩ := al.get i hR
    refine ⟨v, ?_, rv⟩
    rw [List.getElem?_append_left (by simpa [hl] using hi), List.getElem?_map, hv]
    rfl
  · rw [List.getElem?_append_right (by simpa using Nat.le_of_not_lt hi)] at e
    have h2 := List.mem_of_getElem? e
    exact absurd (List.eq_of_mem_replicate h2) (fun z => nomatch z)
/-- the promise of a def by its body -/
theorem fnD (F : FunD K x qual params body scope [] kws f fd) (sc : FnScope Nm ps scope) (C : Option Addr → List Rep → Rep → Prop) (hlen : ∀ b rs R, C b rs R → rs.length = ps.length)
    (hbody : ∀ (cdv : Value) (A : Around) (outer : List Env) (s : Shared) (H : Hp) (E : XK), Room k (A.deeper (envOfC qual scope s.heap.objs.size f cdv)) →
      ∃ t, PSs (cxOf CX0 P w K mg base Nm qual scope f cdv A outer s H E).nox body t ∧ ∀ (B : Bs) (Q : VK) (rs : List Rep) (R : Rep), C B.b rs R → B.gs = [] → (∀ v H', Fr B.b B.S0 B.H0 H' → R.P v (msk B.S0 H') → Q v H') → N B [] (esOf Nm rs) (t { nx := fun _ H' => Q .non H', rt := Q })) :
    FnOk P w K mg base CX0 (k + 1) f fd ps (SpD C) := by
  refine F.ok sc (fun vs H Q E h => ?_) (fun cdv A outer s H vs Q E hr h => ?_)
  · obtain ⟨S, b, rs, R, ok, al, hC, _⟩ := h
    rw [al.len, hlen b rs R hC]
  · obtain ⟨S, b, rs, R, ok, al, hC, q⟩ := h
    obtain ⟨t, ht, hb⟩ := hbody cdv A outer s H E hr
    refine ⟨t, ht.nox, hb ⟨b, S, H, []⟩ Q rs R hC rfl q _ _ ?_⟩
    exact ⟨⟨ok, start_slots Nm al al.len, fun x hx => by cases hx⟩, List.nodup_nil, fun p hp => (by cases hp), Same.refl _, fun _ _ _ => rfl, fun a ha => (ok.bag a ha).1, fun g hg => by cases hg⟩
theorem fnN (F : FunD K x qual params body scope [] kws f fd) (sc : FnScope Nm ps scope) (C : Option Addr → List Rep → HRep → Prop) (hlen : ∀ b rs h, C b rs h → rs.length = ps.length)
    (hbody : ∀ (cdv : Value) (A : Around) (outer : List Env) (s : Shared) (H : Hp) (E : XK), Room k (A.deeper (envOfC qual scope s.heap.objs.size f cdv)) →
      ∃ t, PSs (cxOf CX0 P w K mg base Nm qual scope f cdv A outer s H E).nox body t ∧ ∀ (B : Bs) (Q : VK) (rs : List Rep) (h : HRep), C B.b rs h → B.gs = [] → (∀ p o H', FrN B.b B.S0 B.H0 p H' → H' p = some o → h.P o (msk (p :: B.S0) H') → Q (.ref p) H') → N B [] (esOf Nm rs) (t { nx := fun _ H' => Q .non H', rt := Q })) :
    FnOk P w K mg base CX0 (k + 1) f fd ps (SpN C) := by
  refine F.ok sc (fun vs H Q E h => ?_) (fun cdv A outer s H vs Q E hr h => ?_)
  · obtain ⟨S, b, rs, R, ok, al, hC, _⟩ := h
    rw [al.len, hlen b rs R hC]
  · obtain ⟨S, b, rs, R, ok, al, hC, q⟩ := h
    obtain ⟨t, ht, hb⟩ := hbody cdv A outer s H E hr
    refine ⟨t, ht.nox, hb ⟨b, S, H, []⟩ Q rs R hC rfl q _ _ ?_⟩
    exact ⟨⟨ok, start_slots Nm al al.len, fun x hx => by cases hx⟩, List.nodup_nil, fun p hp => (by cases hp), Same.refl _, fun _ _ _ => rfl, fun a ha => (ok.bag a ha).1, fun g hg => by cases hg⟩
theorem bindsD (F : FunD K x qual params body scope [] [] f fd)
    (h : ∀ (kV doc pm : Value) (an : Option Addr) (cdv ct : Value) (us : List Value), us.length = ps.length → bindArgs (PySem.W.fnOf x qual params body scope .none kV doc pm an cdv ct) ⟨us, []⟩ = pure (ps.zip us)) : L2.Binds K fd ps [] := fun s us _ hl => by
  rw [List.append_nil] at hl ⊢
  exact FunD.bindsA F h s us hl
theorem metD {sp : Sp} {C : Addr} {m : Str} (F : FunD K x qual params body scope [] kws f fd) (cl : Cls K C) (hm : Meth K C m f) (hb : L2.Binds K fd ps []) (G : FnOk P w K mg base CX0 k f fd ps sp) : Met P w K mg base k C m sp [] := ⟨f, fd, ps, [], cl, hm, G, hb, .nil⟩
theorem calD {sp : Sp} (F : FunD K x qual params body scope [] kws f fd) (hm : mg x = some (.ref f)) (hb : Binds K fd ps []) (G : FnOk P w K mg base CX0 k f fd ps sp) : Cal P w K mg base k x sp [] := ⟨f, fd, ps, [], G, hm, F.kp, hb, .nil⟩
variable {B : Bs} {hs : Hs} {es : Es} {R : Rep} {h : HRep} {te : TE} {Q : VK} {D : Ends}
theorem n_fall (k : ∀ v H', Fr B.b B.S0 B.H0 H' → R.P v (msk B.S0 H') → Q v H') (hR : ∀ M, R.P .non M) : N B hs es (fun _ H' => Q .non H') := fun σ H s => k .non H s.fin (hR _)
/-- return of a new object -/
theorem w_retN (e : EN B.b [] es te h) (k : ∀ p o H', FrN B.b B.S0 B.H0 p H' → H' p = some o → h.P o (msk (p :: B.S0) H') → D.rt (.ref p) H') : N B [] es (tRet te D) := fun σ H s =>
  e _ σ H s.e _ fun p o H1 f ho hh => k p o H1 (by
    have f0 := s.fin
    exact FrN.after f0 f) ho hh
/-- return of a place that was made here, the only one -/
theorem w_retH {p : Addr} {i : Nat} (hi : es[i]? = some (some (rAt p))) (k : ∀ p o H', FrN B.b B.S0 B.H0 p H' → H' p = some o → h.P o (msk (p :: B.S0) H') → D.rt (.ref p) H') : N B [(p, h)] es (tRet (tVar i) D) := fun σ H s => by
  obtain ⟨v, e1, e2⟩ := s.e.sl.at_ i _ hi
  obtain ⟨h1, h2, o, h3, h4⟩ := s.e.ht _ List.mem_cons_self
  refine ⟨v, e1, ?_⟩
  rw [show v = V.ref p from e2]
  exact k p o H ⟨s.out p List.mem_cons_self, s.e.ok, s.dat, s.keep⟩ h3 h4
variable {b : Option Addr} {hs' : Hs} {t1 t2 tz tbd : TS} {tt : TT} {tar : TA} {Ra Rb Rc : Rep} {T : L2.St → Hp → Prop} {wi : TI} {g : TG}
theorem w_brk (k : N B hs es D.bk) : N B hs es (tBreak D) := k
/-! ### the same, something behind -/
theorem q_asg {i : Nat} (h : EV B.b hs es te R) (k : N B hs (es.set i (some R)) (tz D)) : N B hs es (tSeq (tAsg te (gName i)) tz D) := w_asg (D := { D with nx := tz D }) h k
theorem q_asgX {α : Type} {P : α → Prop} {f : α → Rep} {i : Nat} (h : EV B.b hs es te (rEx P f)) (k : ∀ x, P x → N B hs (es.set i (some (f x))) (tz D)) : N B hs es (tSeq (tAsg te (gName i)) tz D) := w_asgX (D := { D with nx := tz D }) h k
theorem q_asgG {js : List Nat} {f : Es → Es} (h : EV B.b hs es te R) (hg : GT B.b g R js f) (k : N B hs (f es) (tz D)) : N B hs es (tSeq (tAsg te g) tz D) := w_asgG (D := { D with nx := tz D }) h hg k
theorem q_new {i : Nat} (e : EN B.b hs es te h) (k : ∀ p, N B ((p, h) :: hs) (es.set i (some (rAt p))) (tz D)) : N B hs es (tSeq (tAsg te (gName i)) tz D) := w_new (D := { D with nx := tz D }) e k
theorem q_if {c : Bool} (h : ETd B.b hs es tt c) (k1 : c = true → N B hs es (t1 { D with nx := tz D })) (k2 : c = false → N B hs es (t2 { D with nx := tz D })) : N B hs es (tSeq (tIfS tt t1 t2) tz D) := w_if (D := { D with nx := tz D }) h k1 k2
/-- if c: .., nothing else -/
theorem q_when {c : Bool} (h : ETd B.b hs es tt c) (k1 : c = true → N B hs es (t1 { D with nx := tz D })) (k2 : c = false → N B hs es (tz D)) : N B hs es (tSeq (tIfS tt t1 tNext) tz D) := w_if (D := { D with nx := tz D }) h k1 k2
theorem q_whenX {P : Bool → Prop} (h : ET B.b hs es tt P) (k1 : P true → N B hs es (t1 { D with nx := tz D })) (k2 : P false → N B hs es (tz D)) : N B hs es (tSeq (tIfS tt t1 tNext) tz D) := w_ifX (D := { D with nx := tz D }) h k1 k2
/-- if c: what is never reached -/
theorem q_no (h : ETd B.b hs es tt false) (k2 : N B hs es (tz D)) : N B hs es (tSeq (tIfS tt t1 tNext) tz D) := q_when h (fun e => nomatch e) fun _ => k2
theorem w_no (h : ETd B.b hs es tt false) (k2 : N B hs es D.nx) : N B hs es (tIfS tt t1 tNext D) := w_if h (fun e => nomatch e) fun _ => k2
theorem w_when {c : Bool} (h : ETd B.b hs es tt c) (k1 : c = true → N B hs es (t1 D)) (k2 : c = false → N B hs es D.nx) : N B hs es (tIfS tt t1 tNext D) := w_if h k1 k2
theorem q_drop (h : EV B.b hs es te R) (k : N B hs es (tz D)) : N B hs es (tSeq (tDrop te) tz D) := w_drop (D := { D with nx := tz D }) h k
theorem q_par {i j : Nat} (ha : EA B.b hs es tar [Ra, Rb]) (k : N B hs ((es.set i (some Ra)).set j (some Rb)) (tz D)) : N B hs es (tSeq (tPar i j tar) tz D) := w_par (D := { D with nx := tz D }) ha k
theorem q_for {α β : Type} {F : β → Rep} {js : List Nat} {f : β → Es → Es} {ys : List β} (src : SRC B.b hs es wi (ys.map F)) (I : Nat → α → Prop) (hsI : α → Hs) (esI : α → Es) (x0 : α) (h0 : I 0 x0) (eh : hs = hsI x0) (le : LeE es (esI x0)) (hg : ∀ y ∈ ys, GT B.b g (F y) js (f y))
    (turn : ∀ (gs : List (V × Rep)) (i : Nat) (y : β) (x : α), ys[i]? = some y → I i x → N { B with gs := gs } (hsI x) (f y (esI x)) (tbd { D with nx := Inv { B with gs := gs } I hsI esI (i + 1), ct := Inv { B with gs := gs } I hsI esI (i + 1), bk := tz D }))
    (done : ∀ x, I ys.length x → N B (hsI x) (esI x) (tz D)) : N B hs es (tSeq (tFor wi g tbd) tz D) := w_for (D := { D with nx := tz D }) src I hsI esI x0 h0 eh le hg turn done
theorem q_while {α : Type} (I : Nat → α → Prop) (hsI : α → Hs) (esI : α → Es) (m0 : Nat) (x0 : α) (h0 : I m0 x0) (eh : hs = hsI x0) (le : LeE es (esI x0))
    (turn : ∀ (m : Nat) (x : α), I m x → ∃ c, ETd B.b (hsI x) (esI x) tt c ∧ (c = true → N B (hsI x) (esI x) (tbd { D with nx := fun σ H => ∃ m', m' < m ∧ Inv B I hsI esI m' σ H, ct := fun σ H => ∃ m', m' < m ∧ Inv B I hsI esI m' σ H, bk := tz D })) ∧ (c = false → N B (hsI x) (esI x) (tz D))) : N B hs es (tSeq (tWhile tt tbd) tz D) := w_while (D := { D with nx := tz D }) I hsI esI m0 x0 h0 eh le turn
/-! ### places that change -/
/-- {} -/
theorem en_dT : EN b hs es tDNewT (hDT [] (fun _ => R)) := fun S σ H s Q q => fun p hp => q p _ _ (FrN.mk' (Fr.refl s.ok) hp rfl) upd_same ⟨[], rfl, rfl, fun k v m => by cases m⟩
theorem en_dT' {f : List Key → Rep} : EN b hs es tDNewT (hDT [] f) := fun S σ H s Q q => fun p hp => q p _ _ (FrN.mk' (Fr.refl s.ok) hp rfl) upd_same ⟨[], rfl, rfl, fun k v m => by cases m⟩
theorem en_dK' {f : Key → Rep} : EN b hs es tDNewK (hDK [] f) := fun S σ H s Q q => fun p hp => q p _ _ (FrN.mk' (Fr.refl s.ok) hp rfl) upd_same ⟨[], rfl, rfl, fun k v m => by cases m⟩
/-- two new things at once: a, b = e, f -/
theorem w_par2 {i j : Nat} {ta tb : TE} {h1 h2 : HRep} (ha : EN B.b hs es ta h1) (hb : ∀ p, EN B.b ((p, h1) :: hs) es tb h2) (k : ∀ p q, N B ((q, h2) :: (p, h1) :: hs) ((es.set i (some (rAt p))).set j (some (rAt q))) D.nx) : N B hs es (tPar i j (tCons ta (tCons tb tNil)) D) := fun σ H s =>
  ha _ σ H s.e _ fun p o H1 f ho hh => by
    have s1 := s.add f ho hh
    refine hb p _ σ H1 s1.e _ fun q o2 H2 f2 ho2 hh2 => ?_
    have s2 := s1.add f2 ho2 hh2
    exact ⟨.ref p, .ref q, rfl, k p q _ _ ((s2.set i (R := rAt p) rfl).set j (R := rAt q) rfl)⟩
theorem w_par1 {i j : Nat} {ta tb : TE} {h2 : HRep} (ha : EV B.b hs es ta Ra) (hb : EN B.b hs es tb h2) (k : ∀ q, N B ((q, h2) :: hs) ((es.set i (some Ra)).set j (some (rAt q))) D.nx) : N B hs es (tPar i j (tCons ta (tCons tb tNil)) D) := fun σ H s =>
  ha _ σ H s.e _ fun v H1 f r => by
    have s1 := s.mono f
    refine hb _ σ H1 s1.e _ fun q o2 H2 f2 ho2 hh2 => ?_
    have s2 := s1.add f2 ho2 hh2
    exact ⟨v, .ref q, rfl, k q _ _ ((s2.set i (Ra.up f2.dat r)).set j (R := rAt q) rfl)⟩
theorem w_par3 {i j l : Nat} {ta tb tc : TE} {h2 h3 : HRep} (ha : EV B.b hs es ta Ra) (hb : EN B.b hs es tb h2) (hc : ∀ q, EN B.b ((q, h2) :: hs) es tc h3) (k : ∀ q r, N B ((r, h3) :: (q, h2) :: hs) (((es.set i (some Ra)).set j (some (rAt q))).set l (some (rAt r))) D.nx) : N B hs es (tPar3 i j l (tCons ta (tCons tb (tCons tc tNil))) D) := fun σ H s =>
  ha _ σ H s.e _ fun v H1 f r => by
    have s1 := s.mono f
    refine hb _ σ H1 s1.e _ fun q o2 H2 f2 ho2 hh2 => ?_
    have s2 := s1.add f2 ho2 hh2
    refine hc q _ σ H2 s2.e _ fun q3 o3 H3 f3 ho3 hh3 => ?_
    have s3 := s2.add f3 ho3 hh3
    exact ⟨v, .ref q, .ref q3, rfl, k q q3 _ _ (((s3.set i (Ra.up f3.dat (Ra.up f2.dat r))).set j (R := rAt q) rfl).set l (R := rAt q3) rfl)⟩
theorem putK_fst {κ : Type} [DecidableEq κ] {kvs : List (κ × V)} {k : κ} {v : V} [Decidable (k ∈ kvs.map Prod.fst)] : (putK kvs k v).map Prod.fst = if k ∈ kvs.map Prod.fst then kvs.map Prod.fst else kvs.map Prod.fst ++ [k] := by
  have e : (kvs.any fun kv => decide (kv.1 = k)) = true ↔ k ∈ kvs.map Prod.fst := by
    rw [List.any_eq_true, List.mem_map]
    constructor
    · rintro ⟨q, hq, e⟩
      exact ⟨q, hq, by simpa using e⟩
    · rintro ⟨q, hq, e⟩
      exact ⟨q, hq, by simp [e]⟩
  unfold putK
  by_cases h : k ∈ kvs.map Prod.fst
  · rw [if_pos (e.mpr h), if_pos h, List.map_map]
    apply List.map_congr_left
    intro q _
    show (if q.1 = k then (q.1, v) else q).1 = q.1
    split <;> rfl
  · rw [if_neg (fun q => h (e.mp q)), if_neg h, List.map_append]
    rfl
theorem putK_mem {κ : Type} [DecidableEq κ] {kvs : List (κ × V)} {k k' : κ} {v v' : V} (h : (k', v') ∈ putK kvs k v) : (k' = k ∧ v' = v) ∨ (k' ≠ k ∧ (k', v') ∈ kvs) := by
  unfold putK at h
  split at h
  · obtain ⟨q, hq, e⟩ := List.mem_map.mp h
    by_cases hk : q.1 = k
    · rw [if_pos hk] at e
      cases e
      exact .inl ⟨hk, rfl⟩
    · rw [if_neg hk] at e
      subst e
      exact .inr ⟨hk, hq⟩
  · next hn =>
    rcases List.mem_append.mp h with h | h
    · refine .inr ⟨fun e => hn ?_, h⟩
      rw [List.any_eq_true]
      exact ⟨_, h, by simp [e]⟩
    · rw [List.mem_singleton] at h
      cases h
      exact .inl ⟨rfl, rfl⟩
/-- d[k] = e, d one of the places -/
theorem w_dput {p : Addr} {n : Nat} {ks : List (List Key)} {f f' : List Key → Rep} {key : List Key} {td tk tv : TE} (hn : hs[n]? = some (p, hDT ks f)) (hv : EV B.b hs es tv Rc) (hd : EV B.b hs es td (rAt p)) (hk : EV B.b hs es tk Ra) (kk : KeyT Ra key) (hl : ks.length ≤ 100000)
    (h1 : ∀ v M, Rc.P v M → (f' key).P v M) (h2 : ∀ k, k ∈ ks → k ≠ key → ∀ v M, (f k).P v M → (f' k).P v M) (k : N B (hs.set n (p, hDT (if key ∈ ks then ks else ks ++ [key]) f')) es D.nx) : N B hs es (sDPut td tk tv D) := fun σ H s =>
  hv _ σ H s.e _ fun v H1 f1 r1 => hd _ σ H1 (s.mono f1).e _ fun x H2 f2 r2 => hk _ σ H2 ((s.mono f1).mono f2).e _ fun y H3 f3 r3 => by
    have s3 := ((s.mono f1).mono f2).mono f3
    obtain ⟨_, _, o, ho, kvs, eo, e1, e2⟩ := s3.e.ht _ (List.mem_of_getElem? hn)
    subst eo
    obtain ⟨c, ey, hc⟩ := kk _ _ r3
    have hlen : kvs.length < sizeLine := by
      have : kvs.length = ks.length := by rw [← e1, List.length_map]
      rw [this]
      exact Nat.lt_of_le_of_lt hl (by decide)
    refine ⟨p, _, r2, by rw [ey]; exact DPut.t ho (msk_same _ _ hc) hlen, k _ _ (s3.put hn ⟨_, rfl, ?_, fun k' v' m => ?_⟩)⟩
    · subst e1
      exact putK_fst
    · rcases putK_mem m with ⟨rfl, rfl⟩ | ⟨n1, m1⟩
      · exact h1 _ _ (Rc.up (f2.dat.trans f3.dat) r1)
      · exact h2 k' (by rw [← e1]; exact List.mem_map.mpr ⟨_, m1, rfl⟩) n1 _ _ (e2 _ _ m1)
/-- xs.append(e), xs one of the places -/
theorem w_app {p : Addr} {n : Nat} {rs : List Rep} {to ta : TE} (hn : hs[n]? = some (p, hL rs)) (ho : EV B.b hs es to (rAt p)) (ha : EV B.b hs es ta R) (hl : rs.length ≤ 100000) (k : N B (hs.set n (p, hL (rs ++ [R]))) es D.nx) : N B hs es (tDrop (tBM K "list" rAppend to (tCons ta tNil)) D) := fun σ H s =>
  ho _ σ H s.e _ fun x H1 f1 r1 => by
    have s1 := s.mono f1
    obtain ⟨_, _, o, hpo, vs, eo, al⟩ := s1.e.ht _ (List.mem_of_getElem? hn)
    subst eo
    refine ⟨by rw [show x = V.ref p from r1]; exact Or.inl ⟨rfl, vs, sq_of hpo⟩, ha _ σ H1 s1.e _ fun v H2 f2 r2 => ?_⟩
    have s2 := s1.mono f2
    obtain ⟨_, _, o2, hpo2, vs2, eo2, al2⟩ := s2.e.ht _ (List.mem_of_getElem? hn)
    subst eo2
    exact ⟨p, vs2, v, r1, rfl, hpo2, by rw [al2.len]; exact Nat.lt_of_le_of_lt hl (by decide), k _ _ (s2.put hn ⟨_, rfl, al2.snoc r2⟩)⟩
/-- x = xs.pop(), xs one of the places -/
theorem q_pop {p : Addr} {n i : Nat} {rs : List Rep} {to : TE} (hn : hs[n]? = some (p, hL (rs ++ [R]))) (ho : EV B.b hs es to (rAt p)) (k : N B (hs.set n (p, hL rs)) (es.set i (some R)) (tz D)) : N B hs es (tSeq (tAsg (tBM0 K "list" rPop to) (gName i)) tz D) := fun σ H s =>
  ho _ σ H s.e _ fun x H1 f1 r1 => by
    have s1 := s.mono f1
    obtain ⟨_, _, o, hpo, vs, eo, al⟩ := s1.e.ht _ (List.mem_of_getElem? hn)
    subst eo
    have hlen := al.len
    rw [List.length_append] at hlen
    obtain ⟨v, hv, rv⟩ := al.get rs.length (r := R) (by rw [List.getElem?_append_right (Nat.le_refl _), Nat.sub_self]; rfl)
    refine ⟨by rw [show x = V.ref p from r1]; exact Or.inl ⟨rfl, vs, sq_of hpo⟩, p, vs, v, r1, rfl, hpo, ?_, ?_⟩
    · rw [hlen]
      exact hv
    · have al2 := al.take rs.length
      rw [List.take_left'] at al2
      · have ed : vs.dropLast = vs.take rs.length := by
          rw [List.dropLast_eq_take, hlen]
          rfl
        have em : msk (B.S (hs.set n (p, hL rs))) (upd H1 p (.lst vs.dropLast)) = msk (B.S hs) H1 := by
          have hm : p ∈ B.S hs := (s1.e.ht _ (List.mem_of_getElem? hn)).1
          rw [S_set hn, msk_upd hm]
        have s3 := s1.put (h' := hL rs) (o := .lst vs.dropLast) hn ⟨_, rfl, by rw [ed]; exact al2⟩
        exact k _ _ (s3.set i (by rw [em]; exact rv))
      · rfl
end
end L2.K9A
end
section
set_option Elab.async false
set_option linter.all false
set_option maxRecDepth 100000
set_option maxHeartbeats 2000000
namespace L2.K9A
open PySem PySem.Spec PyProof.Rows L2 L2.K9R
section
variable {b : Option Addr} {S : List Addr} {hs : Hs} {es : Es} {σ : St} {H H1 H' : Hp} {ta tb tc te tk tv : TE} {tt tu : TT} {tar : TA} {R Ra Rb Rc : Rep} {K : PySem.W.Frag} {h : HRep} {B : Bs} {D : Ends}
def hEx {α : Type} (P : α → Prop) (f : α → HRep) : HRep := ⟨fun o H => ∃ x, P x ∧ (f x).P o H, fun s h => by
  obtain ⟨x, p, q⟩ := h
  exact ⟨x, p, (f x).up s q⟩, fun h => by
  obtain ⟨x, _, q⟩ := h
  exact (f x).no q⟩
theorem EN.up {h' : HRep} (e : EN b hs es te h) (k : ∀ o M, h.P o M → h'.P o M) : EN b hs es te h' := fun S σ H s Q q => e S σ H s Q fun p o H' f ho hh => q p o H' f ho (k _ _ hh)
theorem EN.evX {α : Type} {P : α → Prop} {f : α → HRep} (e : EN b hs es te (hEx P f)) : EV b hs es te (rEx P fun x => rOf (f x)) := e.ev.up fun v M q => by
  obtain ⟨a, o, e1, e2, x, px, q⟩ := q
  exact ⟨x, px, a, o, e1, e2, q⟩
/-- {k: v} -/
theorem en_dispT {key : List Key} {f : List Key → Rep} (hk : EV b hs es tk Ra) (hv : EV b hs es tv Rb) (kk : KeyT Ra key) (hf : ∀ v M, Rb.P v M → (f key).P v M) : EN b hs es (tDispT tk tv) (hDT [key] f) := fun S σ H s Q q => fun p hp => by
  have fn := FrN.mk' (o := .dT []) (Fr.refl s.ok) hp rfl
  have bp : b ≠ some p := fun e => fn.new (s.ok.bag p e).1
  have st : SatE b (p :: S) hs es σ (upd H p (.dT [])) := by
    refine ⟨fn.ok, s.sl.up fn.dat, fun x hx => ?_⟩
    obtain ⟨h1, h2, o, h3, h4⟩ := s.ht x hx
    exact ⟨List.mem_cons_of_mem _ h1, h2, o, (fn.hot _ h1 h2).trans h3, x.2.up fn.dat h4⟩
  refine hk _ σ _ st _ fun x H1 f1 r1 => hv _ σ H1 (st.mono f1) _ fun y H2 f2 r2 => ?_
  have f12 := f1.trans f2
  obtain ⟨c, ex, hc⟩ := kk _ _ (Ra.up f2.dat r1)
  refine ⟨(f12.hot p List.mem_cons_self bp).trans upd_same, c, key, ex, msk_same _ _ hc, ?_⟩
  have em : msk (p :: S) (upd H2 p (.dT [(key, y)])) = msk (p :: S) H2 := msk_upd List.mem_cons_self
  refine q p (.dT [(key, y)]) _ ⟨fn.new, f12.ok.put List.mem_cons_self bp rfl, ?_, fun z hz n => ?_⟩ upd_same ⟨_, rfl, rfl, fun k v m => ?_⟩
  · rw [em]
    exact fn.dat.trans f12.dat
  · rw [upd_ne fun e => fn.new (by rw [← e]; exact hz)]
    exact (f12.hot z (List.mem_cons_of_mem _ hz) n).trans (fn.hot z hz n)
  · rw [em]
    rw [List.mem_singleton] at m
    cases m
    exact hf _ _ r2
/-- the data of a list, wherever it stands -/
def DLAt (K : PySem.W.Frag) (b : Option Addr) (hs : Hs) (d : PyData) (R : Rep) : Prop := ∀ (S : List Addr) (H : Hp) (v : V), HotOk b S hs H → R.P v (msk S H) → Dp K H v d
theorem dl_data {d : PyData} (h : IsDp K R d) : DLAt K b hs d R := fun S H v _ r => Dp.up msk_same (h _ _ r)
theorem dl_lat {α : Type} {f : α → Rep} {g : α → PyData} {xs : List α} (la : LAt b hs (xs.map f) R) (h : ∀ x ∈ xs, IsDp K (f x) (g x)) : DLAt K b hs (.list (xs.map g)) R := fun S H v ho r => by
  obtain ⟨a, vs, e, ha, al⟩ := la S H v ho r
  rw [e]
  exact .lst (sq_of ha) (dpAll (fun x hx v M r => h x hx v M r) (al.up msk_same))
theorem rv_neH {d e : PyData} (h1 : DLAt K b hs d Ra) (h2 : DLAt K b hs e Rb) (s1 : SeqAt.shaped d = true) (s2 : SeqAt.shaped e = true) : RV2 b hs (rNeD K) Ra Rb (rBl (!PyData.eqv d e)) := fun S H x y k ho e1 e2 Q q =>
  ⟨d, e, h1 _ _ _ ho e1, h2 _ _ _ ho e2, s1, s2, q _ H (Fr.refl k) rfl⟩
theorem rv_eqH {d e : PyData} (h1 : DLAt K b hs d Ra) (h2 : DLAt K b hs e Rb) (s1 : SeqAt.shaped d = true) (s2 : SeqAt.shaped e = true) : RV2 b hs (rEqD K) Ra Rb (rBl (PyData.eqv d e)) := fun S H x y k ho e1 e2 Q q =>
  ⟨d, e, h1 _ _ _ ho e1, h2 _ _ _ ho e2, s1, s2, q _ H (Fr.refl k) rfl⟩
theorem rv_inH {d : PyData} {ds : List PyData} (h1 : DLAt K b hs d Ra) (h2 : DLAt K b hs (.list ds) Rb) (s1 : SeqAt.shaped d = true) (s2 : SeqAt.shaped (.list ds) = true) : RV2 b hs (rInD K) Ra Rb (rBl (ds.any fun z => PyData.eqv z d)) := fun S H x y k ho e1 e2 Q q =>
  ⟨d, ds, h1 _ _ _ ho e1, h2 _ _ _ ho e2, s1, s2, q _ H (Fr.refl k) rfl⟩
theorem rv_notInH {d : PyData} {ds : List PyData} (h1 : DLAt K b hs d Ra) (h2 : DLAt K b hs (.list ds) Rb) (s1 : SeqAt.shaped d = true) (s2 : SeqAt.shaped (.list ds) = true) : RV2 b hs (rNotInD K) Ra Rb (rBl (!ds.any fun z => PyData.eqv z d)) := fun S H x y k ho e1 e2 Q q =>
  ⟨d, ds, h1 _ _ _ ho e1, h2 _ _ _ ho e2, s1, s2, q _ H (Fr.refl k) rfl⟩
/-- list(a dict with tuple keys) -/
theorem en_listT {ks : List (List Key)} {f : List Key → Rep} {kr : List Key → Rep} (ha : EV b hs es ta R) (hd : ∀ S, DAt b S hs ks f R) (hkr : ∀ (k : List Key) (q : Addr) (M : Hp), k ∈ ks → M q = some (.tup (k.map kV)) → (kr k).P (.ref q) M) : EN b hs es (tCB rListT (tCons ta tNil)) (hL (ks.map kr)) := en_cb (ea_cons ha ea_nil) fun S H vs k ho al Q q => by
  obtain ⟨x, rfl, hx⟩ := all1 al
  obtain ⟨a, kvs, e, ha, hks, _⟩ := hd S H x ho hx
  refine ⟨a, kvs, by rw [e], Or.inl ha, fun p bs hp ik => ?_⟩
  have all : ∀ {kvs : List (List Key × V)} {bs : List Addr}, (∀ q ∈ kvs, q.1 ∈ ks) → IsKeys H kvs bs → All2 (kvs.map fun q => kr q.1) (bs.map V.ref) (msk S H) := by
    intro kvs bs hm ik
    unfold IsKeys at ik
    induction ik with
    | nil => exact True.intro
    | cons h1 _ ih => exact ⟨hkr _ _ _ (hm _ List.mem_cons_self) ((msk_out (tup_out k h1)).trans h1), ih fun q hq => hm q (List.mem_cons_of_mem _ hq)⟩
  have e2 : ks.map kr = kvs.map fun q => kr q.1 := by rw [← hks, List.map_map]; rfl
  refine en_new (h := hL (ks.map kr)) k (Fr.refl k) ⟨_, rfl, ?_⟩ q p hp
  rw [e2]
  exact all (fun q hq => by rw [← hks]; exact List.mem_map.mpr ⟨q, hq, rfl⟩) ik
/-- sorted of a list of cells -/
abbrev Cel := Int × Int
def keyH (H : Hp) (v : V) : Int × Int := match v with
  | .ref t => match H t with
    | some (.tup [.int a, .int b]) => (a, b)
    | _ => (0, 0)
  | _ => (0, 0)
abbrev rCel (c : Cel) : Rep := rT [rInt c.1, rInt c.2]
theorem keyH_cel {c : Cel} {v : V} (h : (rCel c).P v (msk S H)) : (∃ t, v = .ref t ∧ H t = some (.tup [.int c.1, .int c.2])) ∧ keyH H v = c := by
  obtain ⟨a, vs, e, ha, _, al⟩ := rT_at h
  obtain ⟨x, y, rfl, hx, hy⟩ := all_2 al
  rw [show x = _ from hx, show y = _ from hy] at ha
  refine ⟨⟨a, e, ha⟩, ?_⟩
  rw [e]
  unfold keyH
  simp only [ha]
theorem cel_of_mem {M : Hp} {v : V} : ∀ {cs : List Cel} {vs : List V}, All2 (cs.map rCel) vs M → v ∈ vs → ∃ c ∈ cs, (rCel c).P v M := fun {cs vs} al hv => by
  obtain ⟨r, hr, p⟩ := al.mem v hv
  obtain ⟨c, hc, e⟩ := List.mem_map.mp hr
  exact ⟨c, hc, e ▸ p⟩
theorem all_keys : ∀ {cs : List Cel} {vs : List V}, All2 (cs.map rCel) vs (msk S H) → vs.map (keyH H) = cs
  | [], [], _ => rfl
  | c :: cs, v :: vs, h => by
    show keyH H v :: vs.map (keyH H) = c :: cs
    rw [(keyH_cel h.1).2, all_keys h.2]
  | [], _ :: _, h => h.elim
  | _ :: _, [], h => h.elim
theorem all_of_mem {M : Hp} {k : V → Cel} : ∀ {vs : List V}, (∀ v ∈ vs, (rCel (k v)).P v M) → All2 ((vs.map k).map rCel) vs M
  | [], _ => True.intro
  | v :: vs, h => ⟨h v List.mem_cons_self, all_of_mem fun w hw => h w (List.mem_cons_of_mem _ hw)⟩
def SrtC (cs : List Cel) : Prop := cs.Pairwise fun x y => SrtO.lexB y x = false
theorem en_sortedC {cs : List Cel} (ha : EV b hs es ta R) (la : LAt b hs (cs.map rCel) R) : EN b hs es (tCB (rSortedPO K) (tCons ta tNil)) (hEx (fun ds : List Cel => ds.Perm cs ∧ SrtC ds) fun ds => hL (ds.map rCel)) := en_cb (ea_cons ha ea_nil) fun S H vs k ho al Q q => by
  obtain ⟨x, rfl, hx⟩ := all1 al
  obtain ⟨a, ws, e, ha, aw⟩ := la S H x ho hx
  refine ⟨a, ws, keyH H, by rw [e], sq_of ha, fun v hv => ?_, fun ys p hs1 hs2 hp => ?_⟩
  · obtain ⟨c, _, hc⟩ := cel_of_mem aw hv
    obtain ⟨h1, h2⟩ := keyH_cel hc
    rw [h2]
    exact h1
  · refine en_new (h := hEx (fun ds : List Cel => ds.Perm cs ∧ SrtC ds) fun ds => hL (ds.map rCel)) k (Fr.refl k) ⟨ys.map (keyH H), ⟨?_, ?_⟩, ys, rfl, all_of_mem fun v hv => ?_⟩ q p hp
    · have := hs2.perm.map (keyH H)
      rw [all_keys aw] at this
      exact this
    · unfold SrtC
      rw [List.pairwise_map]
      exact hs1
    · obtain ⟨c, _, hc⟩ := cel_of_mem aw (hs2.perm.mem_iff.mp hv)
      rw [(keyH_cel hc).2]
      exact hc
end
end L2.K9A
end
section
set_option Elab.async false
set_option linter.all false
set_option maxRecDepth 100000
set_option maxHeartbeats 2000000
namespace L2.K9A
open PySem PySem.Spec PyProof.Rows L2 L2.K9R
/-! data that == compares: shapes, answers -/
def Shp (n : Nat) (d : PyData) : Prop := d.canLay0 = true ∧ d.depth ≤ n
theorem shp_int {i : Int} : Shp 0 (.int i) := ⟨rfl, Nat.le_refl _⟩
theorem shp_str {z : Str} (h : PySem.PyData.strOk z = true) : Shp 0 (.str z) := ⟨by rw [PyData.canLay0]; exact h, Nat.le_refl _⟩
theorem shp_bl {c : Bool} : Shp 0 (.bool c) := ⟨rfl, Nat.le_refl _⟩
theorem Shp.mono {n m : Nat} {d : PyData} (h : Shp n d) (k : n ≤ m) : Shp m d := ⟨h.1, Nat.le_trans h.2 k⟩
theorem shp_all {n : Nat} : ∀ {ds : List PyData}, (∀ d ∈ ds, Shp n d) → PyData.canLayAll0 ds = true ∧ PyData.depthAll ds ≤ n
  | [], _ => ⟨rfl, Nat.zero_le _⟩
  | d :: ds, h => by
    obtain ⟨h1, h2⟩ := shp_all (ds := ds) fun x hx => h x (List.mem_cons_of_mem _ hx)
    obtain ⟨h3, h4⟩ := h d List.mem_cons_self
    refine ⟨by simp [PyData.canLayAll0, h1, h3], ?_⟩
    rw [PyData.depthAll]
    exact Nat.max_le.mpr ⟨h4, h2⟩
theorem shp_list {n : Nat} {ds : List PyData} (h : ∀ d ∈ ds, Shp n d) : Shp (n + 1) (.list ds) := by
  obtain ⟨h1, h2⟩ := shp_all h
  refine ⟨by simpa [PyData.canLay0] using h1, ?_⟩
  rw [PyData.depth]
  exact Nat.succ_le_succ h2
theorem shp_tup {n : Nat} {ds : List PyData} (h : ∀ d ∈ ds, Shp n d) : Shp (n + 1) (.tuple ds) := by
  obtain ⟨h1, h2⟩ := shp_all h
  refine ⟨by simpa [PyData.canLay0] using h1, ?_⟩
  rw [PyData.depth]
  exact Nat.succ_le_succ h2
theorem shp_map {α : Type} {n : Nat} {xs : List α} {g : α → PyData} (h : ∀ x ∈ xs, Shp n (g x)) : Shp (n + 1) (.list (xs.map g)) := shp_list fun d hd => by
  obtain ⟨x, hx, rfl⟩ := List.mem_map.mp hd
  exact h x hx
theorem Shp.ok {n : Nat} {d : PyData} (h : Shp n d) (k : n ≤ 64) : SeqAt.shaped d = true := by
  unfold SeqAt.shaped
  rw [h.1, decide_eq_true (Nat.le_trans h.2 k)]
  rfl
def pyC (c : Cel) : PyData := .tuple [.int c.1, .int c.2]
def pyCs (cs : List Cel) : PyData := .list (cs.map pyC)
def pySs (ss : List Str) : PyData := .list (ss.map .str)
def pyRs (rows : List (List Str)) : PyData := .list (rows.map pySs)
theorem shp_C (c : Cel) : Shp 1 (pyC c) := shp_tup fun d hd => by
  rcases List.mem_cons.mp hd with e | hd
  · rw [e]; exact shp_int
  · rw [List.mem_singleton.mp hd]; exact shp_int
theorem shp_Cs (cs : List Cel) : Shp 2 (pyCs cs) := shp_map fun c _ => shp_C c
theorem shp_Ss (ss : List Str) (h : ∀ s ∈ ss, PySem.PyData.strOk s = true) : Shp 1 (pySs ss) := shp_map fun s hs => shp_str (h s hs)
theorem shp_Rs (rows : List (List Str)) (h : ∀ r ∈ rows, ∀ s ∈ r, PySem.PyData.strOk s = true) : Shp 2 (pyRs rows) := shp_map fun r hr => shp_Ss r (h r hr)
section
variable {K : PySem.W.Frag}
theorem dp_C {c : Cel} : IsDp K (rCel c) (pyC c) := fun v M q => by
  obtain ⟨a, vs, e, ho, al⟩ := q
  obtain ⟨x, y, rfl, hx, hy⟩ := all_2 al
  rw [show x = V.int c.1 from hx, show y = V.int c.2 from hy] at ho
  rw [e]
  exact .tup (st_of ho) (.cons (.int _) (.cons (.int _) .nil))
theorem dp_Cs {cs : List Cel} : IsDp K (rL (cs.map rCel)) (pyCs cs) := dp_list fun _ _ => dp_C
theorem dp_Ss {ss : List Str} : IsDp K (rL (ss.map rStr)) (pySs ss) := dp_list fun _ _ => dp_str
theorem dp_Rs {rows : List (List Str)} : IsDp K (rL (rows.map fun r => rL (r.map rStr))) (pyRs rows) := dp_list fun _ _ => dp_Ss
end
theorem eqv_nil {ds : List PyData} : PyData.eqv (.list ds) (.list []) = ds.isEmpty := by
  rw [PyData.eqv]
  cases ds <;> rfl
theorem eqv_C {c d : Cel} : PyData.eqv (pyC c) (pyC d) = decide (c = d) := by
  unfold pyC
  rw [PyData.eqv, PyData.eqvAll, PyData.eqvAll, PyData.eqvAll, PyData.eqv, PyData.eqv, Bool.and_true]
  by_cases h : c = d
  · subst h
    simp
  · rw [decide_eq_false h]
    by_cases h1 : c.1 = d.1
    · have h2 : ¬ c.2 = d.2 := fun h2 => h (Prod.ext h1 h2)
      simp [h1, h2]
    · simp [h1]
theorem eqv_str {x y : Str} : PyData.eqv (.str x) (.str y) = decide (x = y) := by
  rw [PyData.eqv]
  by_cases h : x = y
  · subst h
    simp
  · rw [decide_eq_false h]
    exact beq_eq_false_iff_ne.mpr h
theorem any_C {c : Cel} {cs : List Cel} [Decidable (c ∈ cs)] : ((cs.map pyC).any fun z => PyData.eqv z (pyC c)) = decide (c ∈ cs) := by
  by_cases h : c ∈ cs
  · rw [decide_eq_true h, List.any_eq_true]
    exact ⟨pyC c, List.mem_map.mpr ⟨c, h, rfl⟩, by rw [eqv_C]; simp⟩
  · rw [decide_eq_false h, List.any_eq_false]
    intro d hd q
    obtain ⟨e, he, rfl⟩ := List.mem_map.mp hd
    rw [eqv_C] at q
    exact h ((of_decide_eq_true q) ▸ he)
theorem any_S {c : Str} {cs : List Str} [Decidable (c ∈ cs)] : ((cs.map PyData.str).any fun z => PyData.eqv z (.str c)) = decide (c ∈ cs) := by
  by_cases h : c ∈ cs
  · rw [decide_eq_true h, List.any_eq_true]
    exact ⟨.str c, List.mem_map.mpr ⟨c, h, rfl⟩, by rw [eqv_str]; simp⟩
  · rw [decide_eq_false h, List.any_eq_false]
    intro d hd q
    obtain ⟨e, he, rfl⟩ := List.mem_map.mp hd
    rw [eqv_str] at q
    exact h ((of_decide_eq_true q) ▸ he)
end L2.K9A
end
section
set_option Elab.async false
set_option linter.all false
set_option maxRecDepth 100000
set_option maxHeartbeats 2000000
namespace L2.K9A
open PySem PySem.Spec PyProof.Rows L2 L2.K9R
section
variable {b : Option Addr} {S : List Addr} {hs : Hs} {es : Es} {σ : St} {H H1 H' : Hp} {ta tb tc te tk tv : TE} {tt tu : TT} {tar : TA} {R Ra Rb Rc : Rep} {K : PySem.W.Frag} {h : HRep} {B : Bs} {D : Ends} {wi : TI} {g : TG}
/-- {key x: value x for x in xs}, no key twice -/
theorem en_dcT {β : Type} {F : β → Rep} {js vs : List Nat} {f : β → Es → Es} (ys : List β) (key : β → List Key) (val : List Key → Rep) (src : SRC b hs es wi (ys.map F)) (hg : ∀ y ∈ ys, GT b g (F y) js (f y)) (hj : ∀ j, j ∈ js → j ∈ vs)
    (nd : (ys.map key).Nodup) (hl : ys.length ≤ 100000) (hk : ∀ y ∈ ys, ∃ Ra, EV b hs (f y (wipeE es vs)) tk Ra ∧ KeyT Ra (key y)) (hv : ∀ y ∈ ys, ∃ Rb : Rep, EV b hs (f y (wipeE es vs)) tv Rb ∧ ∀ v M, Rb.P v M → (val (key y)).P v M) : EN b hs es (tDcT wi g tYes tk tv vs) (hDT (ys.map key) val) := fun S σ H s Q q => by
  refine src S σ H s _ fun J H1 G Y fr hG wk hY => fun D hD => ?_
  rw [List.length_map] at wk
  have s1 := s.mono fr
  have hDS := fr.back hD
  have hDo : D ∉ S := hDS.1
  have bD : b ≠ some D := fun e => hDo (s.ok.bag D e).1
  refine ⟨fun i m H2 => m = ys.length - i ∧ i ≤ ys.length ∧ FrN b S H D H2 ∧ Same (msk S H1) (msk (D :: S) H2) ∧ ∃ kvs, kvs.map Prod.fst = (ys.take i).map key ∧ H2 D = some (.dT kvs) ∧ ∀ k v, (k, v) ∈ kvs → (val k).P v (msk (D :: S) H2),
    ⟨ys.length, by simp, Nat.zero_le _, FrN.mk' fr hD rfl, by rw [msk_cons hD]; exact Same.refl _, [], rfl, upd_same, fun k v m => by cases m⟩, ?_⟩
  rintro i m Hx ⟨rfl, hi, fn, sm, kvs, ek, hDx, hvals⟩
  have gx : ∃ S', G.P .non (msk S' Hx) := ⟨_, G.up sm hG⟩
  by_cases hlt : i < ys.length
  · refine .inr ⟨wk.goes i Hx hlt gx, fun H2 => i + 1 ≤ ys.length ∧ FrN b S H D H2 ∧ Same (msk S H1) (msk (D :: S) H2) ∧ ∃ kvs, kvs.map Prod.fst = (ys.take (i + 1)).map key ∧ H2 D = some (.dT kvs) ∧ ∀ k v, (k, v) ∈ kvs → (val k).P v (msk (D :: S) H2), fun H' p => ⟨ys.length - (i + 1), by omega, rfl, p⟩, fun x Hy y => ?_⟩
    have hR : ys[i]? = some ys[i] := List.getElem?_eq_getElem hlt
    have okS : HpOk b S Hx := (fn.fr s.ok).ok
    obtain ⟨f1', r1'⟩ := hY (D :: S) i (F ys[i]) Hx x Hy (by rw [List.getElem?_map, hR]; rfl) fn.ok (G.up sm hG) (wk.yields i Hx x Hy hlt gx y)
    obtain ⟨Rk, hkE, hkK⟩ := hk _ (List.getElem_mem hlt)
    obtain ⟨Rv, hvE, hvV⟩ := hv _ (List.getElem_mem hlt)
    have stx : SatE b (D :: S) hs (wipeE es vs) (wipe σ vs) Hy := by
      refine ⟨f1'.ok, ((s.sl.up fn.dat).up f1'.dat).wipe vs, fun z hz => ?_⟩
      obtain ⟨h1, h2, o, h3, h4⟩ := s.ht z hz
      exact ⟨List.mem_cons_of_mem _ h1, h2, o, (f1'.hot _ (List.mem_cons_of_mem _ h1) h2).trans ((fn.hot _ h1 h2).trans h3), z.2.up (fn.dat.trans f1'.dat) h4⟩
    refine hg _ (List.getElem_mem hlt) (D :: S) _ _ Hy x stx.sl r1' _ fun σ2 sl2 k2 l2 => ⟨wipe_eq (fun k hk => k2 k fun q => hk (hj k q)) l2, ?_⟩
    have stx2 : SatE b (D :: S) hs _ σ2 Hy := ⟨stx.ok, sl2, stx.ht⟩
    refine et_yes (D :: S) σ2 Hy stx2 _ fun c H3 f3 pc => ?_
    subst pc
    rw [if_pos rfl]
    refine hkE _ σ2 H3 (stx2.mono f3) _ fun kv H4 f4 rk => hvE _ σ2 H4 ((stx2.mono f3).mono f4) _ fun vv H5 f5 rv => ?_
    have f15 := ((f1'.trans f3).trans f4).trans f5
    obtain ⟨kb, ekv, hkb⟩ := hkK _ _ (Rk.up f5.dat rk)
    have hlen : kvs.length = i := by
      have := congrArg List.length ek
      rw [List.length_map, List.length_map, List.length_take] at this
      omega
    have hD5 : H5 D = some (.dT kvs) := (f15.hot D List.mem_cons_self bD).trans hDx
    refine ⟨kvs, key ys[i], kb, ekv, msk_same _ _ hkb, hD5, ?_, ?_⟩
    · rw [hlen]
      exact Nat.lt_of_le_of_lt (Nat.le_trans hi hl) (by decide)
    · have em : msk (D :: S) (upd H5 D (.dT (putK kvs (key ys[i]) vv))) = msk (D :: S) H5 := msk_upd List.mem_cons_self
      have hnew : key ys[i] ∉ kvs.map Prod.fst := by
        rw [ek]
        intro q
        obtain ⟨j, hj⟩ := List.getElem?_of_mem q
        have hl2 := (List.getElem?_eq_some_iff.mp hj).1
        rw [List.length_map, List.length_take] at hl2
        rw [List.getElem?_map, List.getElem?_take_of_lt (by omega), ← List.getElem?_map] at hj
        have e2 : (ys.map key)[i]? = some (key ys[i]) := by rw [List.getElem?_map, hR]; rfl
        have := (List.getElem?_inj (List.getElem?_eq_some_iff.mp hj).1 nd).mp (hj.trans e2.symm)
        omega
      refine ⟨hlt, ⟨fn.new, f15.ok.put List.mem_cons_self bD rfl, by rw [em]; exact fn.dat.trans f15.dat, fun z hz n => ?_⟩, by rw [em]; exact sm.trans f15.dat, _, ?_, upd_same, fun k' v' m => ?_⟩
      · rw [upd_ne fun e => hDo (by rw [← e]; exact hz)]
        exact (f15.hot z (List.mem_cons_of_mem _ hz) n).trans (fn.hot z hz n)
      · rw [putK_fst (k := key ys[i]), if_neg hnew, ek, List.take_add_one, hR, List.map_append]
        rfl
      · rw [em]
        rcases putK_mem m with ⟨rfl, rfl⟩ | ⟨_, m1⟩
        · exact hvV _ _ rv
        · exact (val k').up f15.dat (hvals _ _ m1)
  · have e : i = ys.length := by omega
    subst e
    rw [List.take_length] at ek
    exact .inl ⟨wk.stops Hx gx, q D _ Hx fn hDx ⟨kvs, rfl, ek, hvals⟩⟩
/-- dict(pairs) -/
theorem putAll_fst {ks : List (List Key)} {val : List Key → Rep} {M : Hp} : ∀ {kvs acc : List (List Key × V)}, (kvs.map Prod.fst).Nodup → (∀ q ∈ kvs, q.1 ∉ acc.map Prod.fst) → (∀ k v, (k, v) ∈ acc → (val k).P v M) → (∀ k v, (k, v) ∈ kvs → (val k).P v M) →
    ((kvs.foldl (fun acc q => putK acc q.1 q.2) acc).map Prod.fst = acc.map Prod.fst ++ kvs.map Prod.fst ∧ ∀ k v, (k, v) ∈ kvs.foldl (fun acc q => putK acc q.1 q.2) acc → (val k).P v M)
  | [], acc, _, _, ha, _ => ⟨by simp, ha⟩
  | q :: kvs, acc, nd, hn, ha, hk => by
    obtain ⟨n1, n2⟩ := List.nodup_cons.mp nd
    have hq : q.1 ∉ acc.map Prod.fst := hn q List.mem_cons_self
    have e1 : (putK acc q.1 q.2).map Prod.fst = acc.map Prod.fst ++ [q.1] := by rw [putK_fst, if_neg hq]
    obtain ⟨h1, h2⟩ := putAll_fst (ks := ks) (kvs := kvs) (acc := putK acc q.1 q.2) n2 (fun z hz => by
      rw [e1]
      intro hm
      rcases List.mem_append.mp hm with hm | hm
      · exact hn z (List.mem_cons_of_mem _ hz) hm
      · exact n1 (by rw [← List.mem_singleton.mp hm]; exact List.mem_map.mpr ⟨z, hz, rfl⟩)) (fun k v m => by
      rcases putK_mem m with ⟨rfl, rfl⟩ | ⟨_, m1⟩
      · exact hk _ _ List.mem_cons_self
      · exact ha _ _ m1) (fun k v m => hk k v (List.mem_cons_of_mem _ m))
    refine ⟨?_, h2⟩
    rw [List.foldl_cons, h1, e1, List.map_cons, List.append_assoc]
    rfl
theorem en_dictT {α : Type} {key : α → List Key} {rk rv : α → Rep} {val : List Key → Rep} {xs : List α} (ha : EV b hs es ta (rL (xs.map fun x => rT [rk x, rv x]))) (hk : ∀ x ∈ xs, KeyT (rk x) (key x)) (hv : ∀ x ∈ xs, ∀ v M, (rv x).P v M → (val (key x)).P v M) (nd : (xs.map key).Nodup) (hl : xs.length ≤ 100000) :
    EN b hs es (tCB (rDictT K) (tCons ta tNil)) (hDT (xs.map key) val) := en_cb (ea_cons ha ea_nil) fun S H vs k _ al Q q => by
  obtain ⟨x, rfl, hx⟩ := all1 al
  obtain ⟨a, ws, e, ha, _, aw⟩ := rL_at hx
  have all : ∀ {xs : List α} {ws : List V}, (∀ x ∈ xs, KeyT (rk x) (key x)) → All2 (xs.map fun x => rT [rk x, rv x]) ws (msk S H) → ∃ kvs : List (List Key × V), PairsT H ws kvs ∧ kvs.map Prod.fst = xs.map key ∧ ∀ k v, (k, v) ∈ kvs → ∃ x ∈ xs, k = key x ∧ (rv x).P v (msk S H) := by
    intro xs
    induction xs with
    | nil =>
      intro ws _ al
      cases ws with
      | nil => exact ⟨[], .nil, rfl, fun k v m => by cases m⟩
      | cons _ _ => exact al.elim
    | cons x xs ih =>
      intro ws hk al
      cases ws with
      | nil => exact al.elim
      | cons v ws =>
        obtain ⟨kvs, h1, h2, h3⟩ := ih (fun y hy => hk y (List.mem_cons_of_mem _ hy)) al.2
        obtain ⟨t, us, ev, ht, _, au⟩ := rT_at al.1
        obtain ⟨u1, u2, rfl, hu1, hu2⟩ := all_2 au
        obtain ⟨kb, e1, hkb⟩ := hk x List.mem_cons_self _ _ hu1
        subst e1
        refine ⟨(key x, u2) :: kvs, .cons ⟨t, kb, ev, ht, msk_same _ _ hkb⟩ h1, by rw [List.map_cons, List.map_cons, h2], fun k v m => ?_⟩
        rcases List.mem_cons.mp m with e | m
        · cases e
          exact ⟨x, List.mem_cons_self, rfl, hu2⟩
        · obtain ⟨y, hy, q⟩ := h3 k v m
          exact ⟨y, List.mem_cons_of_mem _ hy, q⟩
  obtain ⟨kvs, h1, h2, h3⟩ := all hk aw
  obtain ⟨g1, g2⟩ := putAll_fst (ks := []) (val := val) (M := msk S H) (kvs := kvs) (acc := []) (by rw [h2]; exact nd) (fun z _ => fun m => by cases m) (fun k v m => by cases m) (fun k v m => by
    obtain ⟨y, hy, rfl, p⟩ := h3 k v m
    exact hv y hy v _ p)
  refine ⟨a, ws, kvs, by rw [e], ha, h1, ?_, en_new (h := hDT (xs.map key) val) k (Fr.refl k) ⟨_, rfl, ?_, g2⟩ q⟩
  · rw [aw.len, List.length_map]
    exact Nat.le_trans hl (by decide)
  · show (kvs.foldl _ []).map Prod.fst = _
    rw [g1, h2]
    rfl
/-- what is walked is one of several lists -/
def SRCX {α : Type} (b : Option Addr) (hs : Hs) (es : Es) (wi : TI) (P : α → Prop) (rs : α → List Rep) : Prop := ∀ (S : List Addr) (σ : L2.St) (H : Hp), SatE b S hs es σ H → ∀ Rk : It → Hp → Prop,
  (∀ z, P z → ∀ (J : It) (H1 : Hp) (G : Rep) (Y : Nat → Hp → V → Hp → Prop), Fr b S H H1 → G.P .non (msk S H1) → Walk J (rs z).length (fun H => ∃ S', G.P .non (msk S' H)) Y →
    (∀ (S' : List Addr) (i : Nat) (R : Rep) (Hx : Hp) (x : V) (Hy : Hp), (rs z)[i]? = some R → HpOk b S' Hx → G.P .non (msk S' Hx) → Y i Hx x Hy → Fr b S' Hx Hy ∧ R.P x (msk S' Hy)) → Rk J H1) → wi σ H Rk
theorem src_listX {α : Type} {P : α → Prop} {rs : α → List Rep} (ha : EV b hs es ta (rEx P fun x => rL (rs x))) : SRCX b hs es (iList K ta) P rs := fun S σ H s Rk q => ha S σ H s _ fun v H1 f r => by
  obtain ⟨x, px, r⟩ := r
  have src := src_list (K := K) (b := b) (hs := []) (es := [some (rL (rs x))]) (rs := rs x) (ta := tVar 0) (ev_var rfl)
  have st : SatE b S [] [some (rL (rs x))] [some v] H1 := ⟨f.ok, ⟨rfl, fun i R e => by
    cases i with
    | zero =>
      have e1 : rL (rs x) = R := Option.some.inj (Option.some.inj e)
      exact ⟨v, rfl, e1 ▸ r⟩
    | succ i => simp at e⟩, fun z hz => by cases hz⟩
  obtain ⟨v', ev, hv⟩ := src S [some v] H1 st Rk fun J H2 G Y f2 g w y => q x px J H2 G Y (f.trans f2) g w y
  have e2 : v = v' := Option.some.inj (Option.some.inj ev)
  rw [e2]
  exact hv
theorem w_forX {α : Type} {P : α → Prop} {rs : α → List Rep} {tbd : TS} (src : SRCX B.b hs es wi P rs) (k : ∀ x, P x → ∀ wi' : TI, SRC1 B.b (B.S hs) hs es wi' (rs x) → N B hs es (tFor wi' g tbd D)) : N B hs es (tFor wi g tbd D) := fun σ H s => by
  refine src _ σ H s.e _ fun x px J H1 G Y f1 g1 w1 y1 => ?_
  exact k x px (fun σ0 H0 Rk => ∀ (J : It) (H1 : Hp) (G : Rep) (Y : Nat → Hp → V → Hp → Prop), Fr B.b (B.S hs) H0 H1 → G.P .non (msk (B.S hs) H1) → Walk J (rs x).length (fun H => ∃ S', G.P .non (msk S' H)) Y →
    (∀ (S' : List Addr) (i : Nat) (R : Rep) (Hx : Hp) (v : V) (Hy : Hp), (rs x)[i]? = some R → HpOk B.b S' Hx → G.P .non (msk S' Hx) → Y i Hx v Hy → Fr B.b S' Hx Hy ∧ R.P v (msk S' Hy)) → Rk J H1)
    (fun σ H s Rk q J H1 G Y f g w y => q J H1 G Y f g w y) σ H s J H1 G Y f1 g1 w1 y1
theorem q_forX {α : Type} {P : α → Prop} {rs : α → List Rep} {tbd tz : TS} (src : SRCX B.b hs es wi P rs) (k : ∀ x, P x → ∀ wi' : TI, SRC1 B.b (B.S hs) hs es wi' (rs x) → N B hs es (tFor wi' g tbd { D with nx := tz D })) : N B hs es (tSeq (tFor wi g tbd) tz D) := w_forX (D := { D with nx := tz D }) src k
theorem rc_ex {α : Type} {r : List V → Hp → VK → Prop} {P : α → Prop} {f : α → Rep} (h : ∀ x, P x → RC1 b hs r [f x] R) : RC1 b hs r [rEx P f] R := fun S H vs k ho al Q q => by
  obtain ⟨v, rfl, x, px, hv⟩ := all1 al
  exact h x px S H [v] k ho ⟨hv, True.intro⟩ Q q
theorem ev_lenDT {ks : List (List Key)} {f : List Key → Rep} (ha : EV b hs es ta R) (hd : ∀ S, DAt b S hs ks f R) : EV b hs es (tCB rLenT (tCons ta tNil)) (rInt ks.length) := ev_cb (ea_cons ha ea_nil) fun S H vs k ho al Q q => by
  obtain ⟨x, rfl, hx⟩ := all1 al
  obtain ⟨a, kvs, e, ha, hks, _⟩ := hd S H x ho hx
  exact ⟨a, kvs, by rw [e], ha, q _ H (Fr.refl k) (by rw [← hks, List.length_map]; rfl)⟩
theorem ev_lenM {α : Type} {f : α → Rep} {xs : List α} (ha : EV b hs es ta R) (la : LAt b hs (xs.map f) R) : EV b hs es (tCB (rLenK K) (tCons ta tNil)) (rInt xs.length) := ev_to (ev_lenL ha la) (by rw [List.length_map])
/-- a list or a tuple of these -/
def QRep {α : Type} (f : α → Rep) (xs : List α) (R : Rep) : Prop := R = rL (xs.map f) ∨ R = rT (xs.map f)
theorem QRep.ty {α : Type} {f : α → Rep} {xs : List α} (h : QRep f xs R) : TyR K R (.type "list") ∨ TyR K R (.type "tuple") := by
  rcases h with rfl | rfl
  · exact .inl ty_L
  · exact .inr ty_T
theorem src_seqQ {α : Type} {f : α → Rep} {xs : List α} (h : QRep f xs R) (ha : EV b hs es ta R) : SRC b hs es (iSeq K ta) (xs.map f) := by
  rcases h with rfl | rfl
  · exact src_seqL ha
  · exact src_seqT ha
theorem walk_enumT {a : Addr} {xs : List V} : Walk (IteT K a) xs.length (fun H => SqT K H a xs) (YPair (fun i => some (.int (i : Nat))) (fun i => xs[i]?)) := by
  refine ⟨fun i _ hi q => ⟨xs, xs[i], q, by simp [hi]⟩, fun _ q => ⟨xs, q, Nat.le_refl _⟩, fun i H v H' _ q y => ?_⟩
  obtain ⟨T, x, h1, h2, h3, h4⟩ := y
  exact ⟨T, .int (i : Nat), x, h1, h2, h3, rfl, h4 xs q⟩
theorem src_enumQ {α : Type} {Gf : α → Rep} {xs : List α} (hq : QRep Gf xs R) (ha : EA b hs es tar [R]) : SRC b hs es (iEnumQ K tar) (xs.zipIdx.map fun p => rT [rInt (p.2 : Nat), Gf p.1]) := fun S σ H s Rk q => ha S σ H s _ fun vs H1 f r => by
  obtain ⟨v, rfl, hx⟩ := all1 r
  rcases hq with rfl | rfl
  · obtain ⟨a, ws, e, hv, hS, al⟩ := rL_at hx
    refine ⟨a, ws, by rw [e], Or.inl ⟨sq_of hv, q _ H1 ⟨fun _ M => M a = some (.lst ws) ∧ All2 (xs.map Gf) ws M, fun s h => ⟨s _ _ h.1, h.2.up s⟩⟩ (YPair (fun i => some (.int (i : Nat))) (fun i => ws[i]?)) f ⟨(msk_out hS).trans hv, al⟩ ?_ ?_⟩⟩
    · rw [List.length_map, List.length_zipIdx, ← List.length_map (f := Gf), ← al.len]
      exact walk_enum.mono (fun H ⟨S', h⟩ => sq_of (msk_same _ _ h.1)) fun _ _ _ _ _ _ h => h
    · intro S' i R Hx x Hy hi k hG y
      obtain ⟨T, u, w', e1, e2, e3, e4, e5⟩ := y
      cases e4
      subst e1 e3
      rw [List.getElem?_map] at hi
      obtain ⟨p, hp, e⟩ := Option.map_eq_some_iff.mp hi
      subst e
      rw [List.getElem?_zipIdx] at hp
      obtain ⟨r0, h0, ep⟩ := Option.map_eq_some_iff.mp hp
      subst ep
      obtain ⟨w2, hw, rw2⟩ := hG.2.get i (r := Gf r0) (by rw [List.getElem?_map, h0]; rfl)
      cases e5.symm.trans hw
      exact fr_pair k e2 (by show V.int _ = V.int _; rw [Nat.zero_add]) rw2
  · obtain ⟨a, ws, e, hv, hS, al⟩ := rT_at hx
    refine ⟨a, ws, by rw [e], Or.inr ⟨st_of hv, q _ H1 ⟨fun _ M => M a = some (.tup ws) ∧ All2 (xs.map Gf) ws M, fun s h => ⟨s _ _ h.1, h.2.up s⟩⟩ (YPair (fun i => some (.int (i : Nat))) (fun i => ws[i]?)) f ⟨(msk_out hS).trans hv, al⟩ ?_ ?_⟩⟩
    · rw [List.length_map, List.length_zipIdx, ← List.length_map (f := Gf), ← al.len]
      exact walk_enumT.mono (fun H ⟨S', h⟩ => st_of (msk_same _ _ h.1)) fun _ _ _ _ _ _ h => h
    · intro S' i R Hx x Hy hi k hG y
      obtain ⟨T, u, w', e1, e2, e3, e4, e5⟩ := y
      cases e4
      subst e1 e3
      rw [List.getElem?_map] at hi
      obtain ⟨p, hp, e⟩ := Option.map_eq_some_iff.mp hi
      subst e
      rw [List.getElem?_zipIdx] at hp
      obtain ⟨r0, h0, ep⟩ := Option.map_eq_some_iff.mp hp
      subst ep
      obtain ⟨w2, hw, rw2⟩ := hG.2.get i (r := Gf r0) (by rw [List.getElem?_map, h0]; rfl)
      cases e5.symm.trans hw
      exact fr_pair k e2 (by show V.int _ = V.int _; rw [Nat.zero_add]) rw2
end
theorem Bs.nogs {B : Bs} (h : B.gs = []) : { B with gs := [] } = B := by
  cases B
  cases h
  rfl
end L2.K9A
end
section
set_option Elab.async false
set_option linter.all false
set_option maxRecDepth 100000
set_option maxHeartbeats 4000000
namespace K9W
open PySem PySem.Spec PyProof.Rows L2 L2.K9R L2.K9A K9 K9M
open C8 (Cal Met pe_c pe_mt pe_mt0 InsC call_isC pe_gc)
structure Txt (K : PySem.W.Frag) (mg : Str → Option Value) (C : Addr) : Prop where
  cl : Cls K C
  isC : InsC K C
  ne : NeC K C
  g_Plat : ∃ u, mg "Plat" = some u ∧ RelV (.ref C) u
  z_isinstance : mg "isinstance" = none
  z_len : mg "len" = none
  z_all : mg "all" = none
  z_sorted : mg "sorted" = none
  z_list : mg "list" = none
  z_enumerate : mg "enumerate" = none
  z_sum : mg "sum" = none
  z_int : mg "int" = none
  z_abs : mg "abs" = none
  z_zip : mg "zip" = none
  z_dict : mg "dict" = none
  z_set : mg "set" = none
  z_range : mg "range" = none
  z_tuple : mg "tuple" = none
  z_bool : mg "bool" = none
  z_str : mg "str" = none
  g_MOST_LETTERS : ∃ u, mg "MOST_LETTERS" = some u ∧ RelV (.int 6) u
  g_LAST : ∃ u, mg "LAST" = some u ∧ RelV (.int 11) u
  g_MOST_SIZE : ∃ u, mg "MOST_SIZE" = some u ∧ RelV (.int 12) u
  g_MOST_PARCELS : ∃ u, mg "MOST_PARCELS" = some u ∧ RelV (.int 12) u
  g_LETTERS : ∃ u, mg "LETTERS" = some u ∧ RelV (.str "abcdefghijklmnopqrstuvwxyz") u
  a_own_rows : NoAttr K C "own_rows"
  a_own_cells : NoAttr K C "own_cells"
  a_height : NoAttr K C "height"
  a_width : NoAttr K C "width"
  a_own_road : NoAttr K C "own_road"
  a_own_borders : NoAttr K C "own_borders"
  a_own_rims : NoAttr K C "own_rims"
section
variable {P : Program} {w : World} {K : PySem.W.Frag} {hp : Heap} {mg : Str → Option Value} {base : Heap}
theorem txt (X : K.In hp) (G : hp.Ns mainGlobals mg) (c : K9H.Sy K) : Txt K mg (He.ga K "Plat") where
  cl := He.cls_ok (c.fact 71 (f := .cls "Plat") rfl)
  isC := ⟨He.cls_ok (c.fact 71 (f := .cls "Plat") rfl), c.ex.1, c.ex.2.1, c.ex.2.2.1, c.ex.2.2.2.1, c.ex.2.2.2.2.1⟩
  ne := ⟨c.ex.2.2.2.2.2, c.ex.2.2.2.1⟩
  g_Plat := ⟨_, He.glo_ok X G (c.fact 49 (f := .glo "Plat") rfl), rfl⟩
  z_isinstance := He.free_ok X G (c.fact 50 (f := .free "isinstance") rfl)
  z_len := He.free_ok X G (c.fact 51 (f := .free "len") rfl)
  z_all := He.free_ok X G (c.fact 52 (f := .free "all") rfl)
  z_sorted := He.free_ok X G (c.fact 53 (f := .free "sorted") rfl)
  z_list := He.free_ok X G (c.fact 54 (f := .free "list") rfl)
  z_enumerate := He.free_ok X G (c.fact 55 (f := .free "enumerate") rfl)
  z_sum := He.free_ok X G (c.fact 56 (f := .free "sum") rfl)
  z_int := He.free_ok X G (c.fact 57 (f := .free "int") rfl)
  z_abs := He.free_ok X G (c.fact 58 (f := .free "abs") rfl)
  z_zip := He.free_ok X G (c.fact 59 (f := .free "zip") rfl)
  z_dict := He.free_ok X G (c.fact 60 (f := .free "dict") rfl)
  z_set := He.free_ok X G (c.fact 61 (f := .free "set") rfl)
  z_range := He.free_ok X G (c.fact 62 (f := .free "range") rfl)
  z_tuple := He.free_ok X G (c.fact 63 (f := .free "tuple") rfl)
  z_bool := He.free_ok X G (c.fact 64 (f := .free "bool") rfl)
  z_str := He.free_ok X G (c.fact 65 (f := .free "str") rfl)
  g_MOST_LETTERS := let ⟨t, e⟩ := He.int_ok X G (c.fact 66 (f := .int "MOST_LETTERS" 6) rfl); ⟨_, e, t, rfl⟩
  g_LAST := let ⟨t, e⟩ := He.int_ok X G (c.fact 67 (f := .int "LAST" 11) rfl); ⟨_, e, t, rfl⟩
  g_MOST_SIZE := let ⟨t, e⟩ := He.int_ok X G (c.fact 68 (f := .int "MOST_SIZE" 12) rfl); ⟨_, e, t, rfl⟩
  g_MOST_PARCELS := let ⟨t, e⟩ := He.int_ok X G (c.fact 69 (f := .int "MOST_PARCELS" 12) rfl); ⟨_, e, t, rfl⟩
  g_LETTERS := let ⟨t, e⟩ := He.str_ok X G (c.fact 70 (f := .str "LETTERS" "abcdefghijklmnopqrstuvwxyz") rfl); ⟨_, e, t, rfl⟩
  a_own_rows := He.noat_ok (c.fact 73 (f := .noat "Plat" "own_rows") rfl)
  a_own_cells := He.noat_ok (c.fact 74 (f := .noat "Plat" "own_cells") rfl)
  a_height := He.noat_ok (c.fact 75 (f := .noat "Plat" "height") rfl)
  a_width := He.noat_ok (c.fact 76 (f := .noat "Plat" "width") rfl)
  a_own_road := He.noat_ok (c.fact 77 (f := .noat "Plat" "own_road") rfl)
  a_own_borders := He.noat_ok (c.fact 78 (f := .noat "Plat" "own_borders") rfl)
  a_own_rims := He.noat_ok (c.fact 79 (f := .noat "Plat" "own_rims") rfl)

/-! is_whole, is_number .. -/
def CT_is_whole : Option Addr → List Rep → Rep → Prop := fun _ rs R => ∃ i, rs = [rInt i] ∧ R = rBl true
theorem len_is_whole : ∀ b rs R, CT_is_whole b rs R → rs.length = 1 := fun _ _ _ ⟨_, e, _⟩ => by rw [e]; rfl
theorem sc_is_whole : FnScope ["value"] ["value"] K9H.d_is_whole.scope := ⟨rfl, rfl, rfl, by decide +kernel, rfl, by decide +kernel, by decide +kernel⟩
theorem c_is_whole (X : K.In hp) (G : hp.Ns mainGlobals mg) (c : K9H.Sy K) : Cal P w K mg base 1 "is_whole" (SpD CT_is_whole) [] := by
  obtain ⟨fd, F⟩ := c.def_ 0 (d := K9H.d_is_whole) rfl
  have F : FunD K K9H.d_is_whole.name K9H.d_is_whole.qual K9H.d_is_whole.params K9H.d_is_whole.body K9H.d_is_whole.scope [] [] _ fd := F
  have T := txt X G c
  have sc := sc_is_whole
  refine calD F (He.glo_ok X G (c.fact 0 (f := .glo "is_whole") rfl)) (bindsD F fun _ _ _ _ _ _ us hl => match us, hl with | [_], _ => rfl) (fnD (ps := ["value"]) F sc CT_is_whole ?_ ?_)
  case refine_1 => exact len_is_whole
  refine fun cdv A outer s H E hr => ⟨_, (pss_one (ps_ret (pe_and (pe_callB (id := "isinstance") (call_isiK (K := K) rfl) (by rfl) T.z_isinstance (by decide +kernel) (pa_cons (pv 0) (pa_cons (pe_bltn (v := .ty "int") (by rfl) T.z_int (by decide +kernel) rfl) pa_nil))) (pe_one (pe_not (pe_callB (id := "isinstance") (call_isiK (K := K) rfl) (by rfl) T.z_isinstance (by decide +kernel) (pa_cons (pv 0) (pa_cons (pe_bltn (v := .ty "bool") (by rfl) T.z_bool (by decide +kernel) rfl) pa_nil)))))))), fun B Q rs R hC hgs k => ?_⟩
  obtain ⟨i, rfl, rfl⟩ := hC
  refine w_ret (R := rBl true) (ev_andV (c := true) (d := true) (ev_cb (ea_cons (ev_var rfl) (ea_cons ev_c ea_nil)) (rc_isi ty_int (kit_ty (by decide +kernel)))) fun _ => ev_notV (c := false) (ev_cb (ea_cons (ev_var rfl) (ea_cons ev_c ea_nil)) (rc_isi ty_int (kit_ty (by decide +kernel))))) k
def CT_is_number : Option Addr → List Rep → Rep → Prop := fun _ rs R => ∃ i l h, rs = [rInt i, rInt l, rInt h] ∧ R = rBl (decide (l ≤ i) && decide (i ≤ h))
theorem len_is_number : ∀ b rs R, CT_is_number b rs R → rs.length = 3 := fun _ _ _ ⟨_, _, _, e, _⟩ => by rw [e]; rfl
theorem sc_is_number : FnScope ["value", "least", "most"] ["value", "least", "most"] K9H.d_is_number.scope := ⟨rfl, rfl, rfl, by decide +kernel, rfl, by decide +kernel, by decide +kernel⟩
theorem c_is_number (X : K.In hp) (G : hp.Ns mainGlobals mg) (c : K9H.Sy K) : Cal P w K mg base 2 "is_number" (SpD CT_is_number) [] := by
  obtain ⟨fd, F⟩ := c.def_ 1 (d := K9H.d_is_number) rfl
  have F : FunD K K9H.d_is_number.name K9H.d_is_number.qual K9H.d_is_number.params K9H.d_is_number.body K9H.d_is_number.scope [] [] _ fd := F
  have T := txt X G c
  have C_is_whole := c_is_whole (P := P) (w := w) (base := base) X G c
  have sc := sc_is_number
  refine calD F (He.glo_ok X G (c.fact 1 (f := .glo "is_number") rfl)) (bindsD F fun _ _ _ _ _ _ us hl => match us, hl with | [_, _, _], _ => rfl) (fnD (ps := ["value", "least", "most"]) F sc CT_is_number ?_ ?_)
  case refine_1 => exact len_is_number
  refine fun cdv A outer s H E hr => ⟨_, (pss_one (ps_ret (pe_and (pe_c C_is_whole hr (by decide) (by rfl) (pa_cons (pv 0) pa_nil)) (pe_one (pe_chain op_le op_le (pv 1) (pv 0) (pv 2)))))), fun B Q rs R hC hgs k => ?_⟩
  obtain ⟨i, l, h, rfl, rfl⟩ := hC
  refine w_ret (R := rBl (decide (l ≤ i) && decide (i ≤ h))) (ev_andV (c := true) (ev_call (ea_cons (ev_var rfl) ea_nil) ⟨i, rfl, rfl⟩) fun _ => ev_chain (ev_var rfl) (ev_var rfl) rv_I0 (fun _ => ev_var rfl) fun _ => rv_I0) k

abbrev rCell (c : Cell) : Rep := rT [rInt c.1, rInt c.2]
abbrev rCells (cs : List Cell) : Rep := rL (cs.map rCell)
abbrev rStrs (ss : List Str) : Rep := rL (ss.map rStr)
abbrev rRows (rows : List (List Str)) : Rep := rL (rows.map rStrs)
def ck (c : Cell) : List Key := [.inl c.1, .inl c.2]
abbrev rSet (cs : List Cell) : Rep := rDT (cs.map ck) (fun _ => rBl true)
abbrev hSet (cs : List Cell) : HRep := hDT (cs.map ck) (fun _ => rBl true)
def CT_is_cell : Option Addr → List Rep → Rep → Prop := fun _ rs R => ∃ c, rs = [rCell c] ∧ R = rBl (okC c)
theorem len_is_cell : ∀ b rs R, CT_is_cell b rs R → rs.length = 1 := fun _ _ _ ⟨_, e, _⟩ => by rw [e]; rfl
theorem sc_is_cell : FnScope ["value"] ["value"] K9H.d_is_cell.scope := ⟨rfl, rfl, rfl, by decide +kernel, rfl, by decide +kernel, by decide +kernel⟩
theorem c_is_cell (X : K.In hp) (G : hp.Ns mainGlobals mg) (c : K9H.Sy K) : Cal P w K mg base 3 "is_cell" (SpD CT_is_cell) [] := by
  obtain ⟨fd, F⟩ := c.def_ 3 (d := K9H.d_is_cell) rfl
  have F : FunD K K9H.d_is_cell.name K9H.d_is_cell.qual K9H.d_is_cell.params K9H.d_is_cell.body K9H.d_is_cell.scope [] [] _ fd := F
  have T := txt X G c
  have C_is_number := c_is_number (P := P) (w := w) (base := base) X G c
  have sc := sc_is_cell
  refine calD F (He.glo_ok X G (c.fact 3 (f := .glo "is_cell") rfl)) (bindsD F fun _ _ _ _ _ _ us hl => match us, hl with | [_], _ => rfl) (fnD (ps := ["value"]) F sc CT_is_cell ?_ ?_)
  case refine_1 => exact len_is_cell
  refine fun cdv A outer s H E hr => ⟨_, (pss_cons (ps_if (PW.pt (pw_or (pt_not (pt_val (pe_callB (id := "isinstance") (call_isiK (K := K) rfl) (by rfl) T.z_isinstance (by decide +kernel) (pa_cons (pv 0) (pa_cons (pe_bltn (v := .ty "tuple") (by rfl) T.z_tuple (by decide +kernel) rfl) pa_nil))))) (pw_or1 (pt_cmpR op_ne (pe_callB (id := "len") (call_lenK (K := K) rfl) (by rfl) T.z_len (by decide +kernel) (pa_cons (pv 0) pa_nil)) pe_int (nomark _)))))
  (pss_one (ps_ret pe_bl))
  pss_nil)
  (pss_one (ps_ret (pe_and (pe_c C_is_number hr (by decide) (by rfl) (pa_cons (pe_ix (ix_tupK (K := K) rfl) (pv 0) pe_int (fun _ _ => rfl)) (pa_cons pe_int (pa_cons (pe_gc (by rfl) T.g_LAST) pa_nil)))) (pe_one (pe_c C_is_number hr (by decide) (by rfl) (pa_cons (pe_ix (ix_tupK (K := K) rfl) (pv 0) pe_int (fun _ _ => rfl)) (pa_cons pe_int (pa_cons (pe_gc (by rfl) T.g_LAST) pa_nil))))))))), fun B Q rs R hC hgs k => ?_⟩
  obtain ⟨c, rfl, rfl⟩ := hC
  refine q_no (et_to (et_or (et_not (et_B (ev_isi (c := true) (ev_var rfl) ty_T (by decide +kernel)))) fun _ => (et_test (ev_opV (ev_lenT (ev_var rfl)) ev_c (rv_ne rfl)))) rfl) ?_
  refine w_ret (R := rBl (okC c)) (ev_andV (ev_call (ea_cons (ev_opV (ev_var rfl) ev_c (rv_ixT (by decide) rfl)) (ea_cons ev_c (ea_cons ev_c ea_nil))) ⟨_, _, _, rfl, rfl⟩) fun _ => (ev_call (ea_cons (ev_opV (ev_var rfl) ev_c (rv_ixT (by decide) rfl)) (ea_cons ev_c (ea_cons ev_c ea_nil))) ⟨_, _, _, rfl, rfl⟩)) k
def CT_beside : Option Addr → List Rep → Rep → Prop := fun _ rs R => ∃ c, rs = [rCell c] ∧ R = rCells (bes c)
theorem len_beside : ∀ b rs R, CT_beside b rs R → rs.length = 1 := fun _ _ _ ⟨_, e, _⟩ => by rw [e]; rfl
theorem sc_beside : FnScope ["cell", "row", "column", "places", "place"] ["cell"] K9H.d_beside.scope := ⟨rfl, rfl, rfl, by decide +kernel, rfl, by decide +kernel, by decide +kernel⟩
theorem c_beside (X : K.In hp) (G : hp.Ns mainGlobals mg) (c : K9H.Sy K) : Cal P w K mg base 4 "beside" (SpD CT_beside) [] := by
  obtain ⟨fd, F⟩ := c.def_ 4 (d := K9H.d_beside) rfl
  have F : FunD K K9H.d_beside.name K9H.d_beside.qual K9H.d_beside.params K9H.d_beside.body K9H.d_beside.scope [] [] _ fd := F
  have T := txt X G c
  have C_is_cell := c_is_cell (P := P) (w := w) (base := base) X G c
  have sc := sc_beside
  refine calD F (He.glo_ok X G (c.fact 4 (f := .glo "beside") rfl)) (bindsD F fun _ _ _ _ _ _ us hl => match us, hl with | [_], _ => rfl) (fnD (ps := ["cell"]) F sc CT_beside ?_ ?_)
  case refine_1 => exact len_beside
  refine fun cdv A outer s H E hr => ⟨_, (pss_cons (ps_asg (pv 0) (pg_tupK (K := K) (n := 2) rfl rfl (pgs_cons (pg_name (i := 1) sc.nd rfl (by first | exact Or.inl rfl | exact Or.inr rfl)) (pgs_cons (pg_name (i := 2) sc.nd rfl (by first | exact Or.inl rfl | exact Or.inr rfl)) pgs_nil))))
  (pss_cons (ps_set (i := 3) sc.nd rfl (by first | exact Or.inl rfl | exact Or.inr rfl) (pe_lst (pa_cons (pe_tup (pa_cons (pe_op op_sub (pv 1) pe_int) (pa_cons (pv 2) pa_nil))) (pa_cons (pe_tup (pa_cons (pv 1) (pa_cons (pe_op op_sub (pv 2) pe_int) pa_nil))) (pa_cons (pe_tup (pa_cons (pv 1) (pa_cons (pe_op op_add (pv 2) pe_int) pa_nil))) (pa_cons (pe_tup (pa_cons (pe_op op_add (pv 1) pe_int) (pa_cons (pv 2) pa_nil))) pa_nil))))))
  (pss_one (ps_ret (pe_lc (own := [("place", 4)]) rfl sc.nd (pi_listK (K := K) rfl (pv 3)) (blkOk_by (by kernel_rfl)) (fun _ _ _ _ _ => (pg_name (i := 4) sc.nd rfl (by first | exact Or.inl rfl | exact Or.inr rfl))) (fun _ _ _ _ _ => (pts_one (pt_val (pe_c C_is_cell hr (by decide) (by rfl) (pa_cons (pv 4) pa_nil))))) (fun _ _ _ _ _ => (pv 4))))))), fun B Q rs R hC hgs k => ?_⟩
  obtain ⟨c, rfl, rfl⟩ := hC
  refine q_asgG (ev_var rfl) (gt_tup2 gt_name gt_name) (q_asg (R := rCells (four c)) (ev_lst (ea_cons (ev_tup (ea_cons (ev_opV (ev_var rfl) ev_c rv_I0) (ea_cons (ev_var rfl) ea_nil))) (ea_cons (ev_tup (ea_cons (ev_var rfl) (ea_cons (ev_opV (ev_var rfl) ev_c rv_I0) ea_nil))) (ea_cons (ev_tup (ea_cons (ev_var rfl) (ea_cons (ev_opV (ev_var rfl) ev_c rv_I0) ea_nil))) (ea_cons (ev_tup (ea_cons (ev_opV (ev_var rfl) ev_c rv_I0) (ea_cons (ev_var rfl) ea_nil))) ea_nil))))) ?_)
  exact w_ret (R := rCells (bes c)) (en_lc (four c) okC rCell (src_list (ev_var rfl)) (fun _ _ => gt_name) (fun _ h => h) (by show 4 ≤ _; decide) (fun x _ => et_B (ev_call (ea_cons (ev_var rfl) ea_nil) ⟨x, rfl, rfl⟩)) (fun x _ _ => ev_var rfl)).ev k

theorem lt_abs {n : Nat} (h : n ≤ 100) : n ≤ 100000 := Nat.le_trans h (by decide)
def CT_is_name : Option Addr → List Rep → Rep → Prop := fun _ rs R => ∃ z, IsWord z ∧ rs = [rStr z] ∧ R = rBl true
theorem len_is_name : ∀ b rs R, CT_is_name b rs R → rs.length = 1 := fun _ _ _ ⟨_, _, e, _⟩ => by rw [e]; rfl
theorem sc_is_name : FnScope ["value", "letter"] ["value"] K9H.d_is_name.scope := ⟨rfl, rfl, rfl, by decide +kernel, rfl, by decide +kernel, by decide +kernel⟩
theorem c_is_name (X : K.In hp) (G : hp.Ns mainGlobals mg) (c : K9H.Sy K) : Cal P w K mg base 1 "is_name" (SpD CT_is_name) [] := by
  obtain ⟨fd, F⟩ := c.def_ 2 (d := K9H.d_is_name) rfl
  have F : FunD K K9H.d_is_name.name K9H.d_is_name.qual K9H.d_is_name.params K9H.d_is_name.body K9H.d_is_name.scope [] [] _ fd := F
  have T := txt X G c
  have sc := sc_is_name
  refine calD F (He.glo_ok X G (c.fact 2 (f := .glo "is_name") rfl)) (bindsD F fun _ _ _ _ _ _ us hl => match us, hl with | [_], _ => rfl) (fnD (ps := ["value"]) F sc CT_is_name ?_ ?_)
  case refine_1 => exact len_is_name
  refine fun cdv A outer s H E hr => ⟨_, (pss_cons (ps_if (PW.pt (pw_or (pt_not (pt_val (pe_callB (id := "isinstance") (call_isiK (K := K) rfl) (by rfl) T.z_isinstance (by decide +kernel) (pa_cons (pv 0) (pa_cons (pe_bltn (v := .ty "str") (by rfl) T.z_str (by decide +kernel) rfl) pa_nil))))) (pw_or1 (pt_not (pt_chain op_le op_le pe_int (pe_callB (id := "len") (call_lenK (K := K) rfl) (by rfl) T.z_len (by decide +kernel) (pa_cons (pv 0) pa_nil)) (pe_gc (by rfl) T.g_MOST_LETTERS))))))
  (pss_one (ps_ret pe_bl))
  pss_nil)
  (pss_one (ps_ret (pe_callB (id := "all") (cr_allK (K := K) rfl rfl) (by rfl) T.z_all (by decide +kernel) (pa_cons (pe_lc (own := [("letter", 1)]) rfl sc.nd (pi_str (pv 0)) (blkOk_by (by kernel_rfl)) (fun _ _ _ _ _ => (pg_name (i := 1) sc.nd rfl (by first | exact Or.inl rfl | exact Or.inr rfl))) (fun _ _ _ _ _ => pts_nil) (fun _ _ _ _ _ => (pe_cmpR op_inSg (pv 1) (pe_gc (by rfl) T.g_LETTERS) (by rfl)))) pa_nil))))), fun B Q rs R hC hgs k => ?_⟩
  obtain ⟨z, hz, rfl, rfl⟩ := hC
  obtain ⟨z1, z6, zl⟩ := hz
  have zz : z.length ≤ 100000 := by omega
  have e1 : decide ((1 : Int) ≤ ((z.length : Nat) : Int)) = true := decide_eq_true (by omega)
  have e2 : decide (((z.length : Nat) : Int) ≤ 6) = true := decide_eq_true (by omega)
  refine q_no (et_to (et_or (et_not (et_B (ev_isi (c := true) (ev_var rfl) ty_str (by decide +kernel)))) fun _ => (et_not (et_test (ev_chain ev_c (ev_lenS (ev_var rfl) ?_) rv_I0 (fun _ => ev_c) fun _ => rv_I0)))) ?_) ?_
  · exact zz
  · rw [e1, e2]
    rfl
  refine w_ret (R := rBl true) (ev_bl (ev_cb (ea_cons (ev_to (en_lcA z.cps.toList (fun c => rBl (decide (c ∈ abc))) (src_str (ev_var rfl)) (fun _ _ => gt_name) (fun _ h => h) ?_ (fun c hc => (ev_opV (ev_var rfl) ev_c rv_inSg))).ev ?_) ea_nil) (rc_all (cs := z.cps.toList.map fun c => decide (c ∈ abc)))) ?_) k
  · rw [Array.length_toList]
    exact zz
  · rw [List.map_map]
    rfl
  · rw [List.all_eq_true]
    intro x hx
    obtain ⟨c, hc, rfl⟩ := List.mem_map.mp hx
    exact decide_eq_true (zl c hc)
def CT_is_list (K : PySem.W.Frag) : Option Addr → List Rep → Rep → Prop := fun _ rs R => ∃ R0, (TyR K R0 (.type "list") ∨ TyR K R0 (.type "tuple")) ∧ rs = [R0] ∧ R = rBl true
theorem len_is_list : ∀ b rs R, CT_is_list K b rs R → rs.length = 1 := fun _ _ _ ⟨_, _, e, _⟩ => by rw [e]; rfl
theorem sc_is_list : FnScope ["value"] ["value"] K9H.d_is_list.scope := ⟨rfl, rfl, rfl, by decide +kernel, rfl, by decide +kernel, by decide +kernel⟩
theorem c_is_list (X : K.In hp) (G : hp.Ns mainGlobals mg) (c : K9H.Sy K) : Cal P w K mg base 1 "is_list" (SpD (CT_is_list K)) [] := by
  obtain ⟨fd, F⟩ := c.def_ 11 (d := K9H.d_is_list) rfl
  have F : FunD K K9H.d_is_list.name K9H.d_is_list.qual K9H.d_is_list.params K9H.d_is_list.body K9H.d_is_list.scope [] [] _ fd := F
  have T := txt X G c
  have sc := sc_is_list
  refine calD F (He.glo_ok X G (c.fact 11 (f := .glo "is_list") rfl)) (bindsD F fun _ _ _ _ _ _ us hl => match us, hl with | [_], _ => rfl) (fnD (ps := ["value"]) F sc (CT_is_list K) ?_ ?_)
  case refine_1 => exact len_is_list
  refine fun cdv A outer s H E hr => ⟨_, (pss_one (ps_ret (pe_callB (id := "isinstance") (call_isiTK (K := K) rfl) (by rfl) T.z_isinstance (by decide +kernel) (pa_cons (pv 0) (pa_cons (pe_tup (pa_cons (pe_bltn (v := .ty "list") (by rfl) T.z_list (by decide +kernel) rfl) (pa_cons (pe_bltn (v := .ty "tuple") (by rfl) T.z_tuple (by decide +kernel) rfl) pa_nil))) pa_nil))))), fun B Q rs R hC hgs k => ?_⟩
  obtain ⟨R0, ht, rfl, rfl⟩ := hC
  rcases ht with ht | ht
  · exact w_ret (R := rBl true) (ev_isiT (c := true) (ev_var rfl) ht (by decide +kernel)) k
  · exact w_ret (R := rBl true) (ev_isiT (c := true) (ev_var rfl) ht (by decide +kernel)) k
def CT_is_edge : Option Addr → List Rep → Rep → Prop := fun _ rs R => ∃ c h w, okC c = true ∧ c.1 < h ∧ c.2 < w ∧ rs = [rCell c, rInt h, rInt w] ∧ R = rBl (edgeB h w c)
theorem len_is_edge : ∀ b rs R, CT_is_edge b rs R → rs.length = 3 := fun _ _ _ ⟨_, _, _, _, _, _, e, _⟩ => by rw [e]; rfl
theorem sc_is_edge : FnScope ["cell", "height", "width"] ["cell", "height", "width"] K9H.d_is_edge.scope := ⟨rfl, rfl, rfl, by decide +kernel, rfl, by decide +kernel, by decide +kernel⟩
theorem c_is_edge (X : K.In hp) (G : hp.Ns mainGlobals mg) (c : K9H.Sy K) : Cal P w K mg base 4 "is_edge" (SpD CT_is_edge) [] := by
  obtain ⟨fd, F⟩ := c.def_ 14 (d := K9H.d_is_edge) rfl
  have F : FunD K K9H.d_is_edge.name K9H.d_is_edge.qual K9H.d_is_edge.params K9H.d_is_edge.body K9H.d_is_edge.scope [] [] _ fd := F
  have T := txt X G c
  have C_is_cell := c_is_cell (P := P) (w := w) (base := base) X G c
  have sc := sc_is_edge
  refine calD F (He.glo_ok X G (c.fact 14 (f := .glo "is_edge") rfl)) (bindsD F fun _ _ _ _ _ _ us hl => match us, hl with | [_, _, _], _ => rfl) (fnD (ps := ["cell", "height", "width"]) F sc CT_is_edge ?_ ?_)
  case refine_1 => exact len_is_edge
  refine fun cdv A outer s H E hr => ⟨_, (pss_cons (ps_if (PW.pt (pw_or (pt_not (pt_val (pe_c C_is_cell hr (by decide) (by rfl) (pa_cons (pv 0) pa_nil)))) (pw_or (pt_cmpR op_ge (pe_ix (ix_tupK (K := K) rfl) (pv 0) pe_int (fun _ _ => rfl)) (pv 1) (nomark _)) (pw_or1 (pt_cmpR op_ge (pe_ix (ix_tupK (K := K) rfl) (pv 0) pe_int (fun _ _ => rfl)) (pv 2) (nomark _))))))
  (pss_one (ps_ret pe_bl))
  pss_nil)
  (pss_one (ps_ret (pe_or (pe_cmpR (op_in_seqK (K := K) rfl) (pe_ix (ix_tupK (K := K) rfl) (pv 0) pe_int (fun _ _ => rfl)) (pe_tup (pa_cons pe_int (pa_cons (pe_op op_sub (pv 1) pe_int) pa_nil))) (by rfl)) (pe_one (pe_cmpR (op_in_seqK (K := K) rfl) (pe_ix (ix_tupK (K := K) rfl) (pv 0) pe_int (fun _ _ => rfl)) (pe_tup (pa_cons pe_int (pa_cons (pe_op op_sub (pv 2) pe_int) pa_nil))) (by rfl))))))), fun B Q rs R hC hgs k => ?_⟩
  obtain ⟨c, h, w', ok, h1, h2, rfl, rfl⟩ := hC
  refine q_no (et_to (et_or (et_not (et_B (ev_call (ea_cons (ev_var rfl) ea_nil) ⟨_, rfl, rfl⟩))) fun _ => (et_or (et_test (ev_opV (ev_opV (ev_var rfl) ev_c (rv_ixT (by decide) rfl)) (ev_var rfl) rv_I0)) fun _ => (et_test (ev_opV (ev_opV (ev_var rfl) ev_c (rv_ixT (by decide) rfl)) (ev_var rfl) rv_I0)))) ?_) ?_
  · rw [ok, decide_eq_false (by omega), decide_eq_false (by omega)]
    rfl
  refine w_ret (R := rBl (edgeB h w' c)) (ev_orV (ev_opV (ev_opV (ev_var rfl) ev_c (rv_ixT (by decide) rfl)) (ev_tup (ea_cons ev_c (ea_cons (ev_opV (ev_var rfl) ev_c rv_I0) ea_nil))) (rv_inT (ns := [_, _]))) fun _ => (ev_opV (ev_opV (ev_var rfl) ev_c (rv_ixT (by decide) rfl)) (ev_tup (ea_cons ev_c (ea_cons (ev_opV (ev_var rfl) ev_c rv_I0) ea_nil))) (rv_inT (ns := [_, _])))) k
def CT_L_law_is_word : Option Addr → List Rep → Rep → Prop := fun _ rs R => ∃ z, z.length ≤ 1000 ∧ rs = [rStr z] ∧ R = rBl (wordB z)
theorem len_L_law_is_word : ∀ b rs R, CT_L_law_is_word b rs R → rs.length = 1 := fun _ _ _ ⟨_, _, e, _⟩ => by rw [e]; rfl
theorem sc_L_law_is_word : FnScope ["_law_value", "_law_sign"] ["_law_value"] K9H.d_L_law_is_word.scope := ⟨rfl, rfl, rfl, by decide +kernel, rfl, by decide +kernel, by decide +kernel⟩
theorem c_L_law_is_word (X : K.In hp) (G : hp.Ns mainGlobals mg) (c : K9H.Sy K) : Cal P w K mg base 1 "_law_is_word" (SpD CT_L_law_is_word) [] := by
  obtain ⟨fd, F⟩ := c.def_ 37 (d := K9H.d_L_law_is_word) rfl
  have F : FunD K K9H.d_L_law_is_word.name K9H.d_L_law_is_word.qual K9H.d_L_law_is_word.params K9H.d_L_law_is_word.body K9H.d_L_law_is_word.scope [] [] _ fd := F
  have T := txt X G c
  have sc := sc_L_law_is_word
  refine calD F (He.glo_ok X G (c.fact 25 (f := .glo "_law_is_word") rfl)) (bindsD F fun _ _ _ _ _ _ us hl => match us, hl with | [_], _ => rfl) (fnD (ps := ["_law_value"]) F sc CT_L_law_is_word ?_ ?_)
  case refine_1 => exact len_L_law_is_word
  refine fun cdv A outer s H E hr => ⟨_, (pss_one (ps_ret (pe_and (pe_callB (id := "isinstance") (call_isiK (K := K) rfl) (by rfl) T.z_isinstance (by decide +kernel) (pa_cons (pv 0) (pa_cons (pe_bltn (v := .ty "str") (by rfl) T.z_str (by decide +kernel) rfl) pa_nil))) (pe_and (pe_chain op_le op_le pe_int (pe_callB (id := "len") (call_lenK (K := K) rfl) (by rfl) T.z_len (by decide +kernel) (pa_cons (pv 0) pa_nil)) pe_int) (pe_one (pe_callB (id := "all") (cr_allK (K := K) rfl rfl) (by rfl) T.z_all (by decide +kernel) (pa_cons (pe_lc (own := [("_law_sign", 1)]) rfl sc.nd (pi_str (pv 0)) (blkOk_by (by kernel_rfl)) (fun _ _ _ _ _ => (pg_name (i := 1) sc.nd rfl (by first | exact Or.inl rfl | exact Or.inr rfl))) (fun _ _ _ _ _ => pts_nil) (fun _ _ _ _ _ => (pe_cmpR op_inSg (pv 1) pe_str (by rfl)))) pa_nil))))))), fun B Q rs R hC hgs k => ?_⟩
  obtain ⟨z, hz, rfl, rfl⟩ := hC
  refine w_ret (R := rBl (wordB z)) (ev_andV (c := true) (ev_isi (ev_var rfl) ty_str (by decide +kernel)) fun _ => ev_andV (ev_chain ev_c (ev_lenS (ev_var rfl) ?_) rv_I0 (fun _ => ev_c) fun _ => rv_I0) fun _ => (ev_cb (ea_cons (ev_to (en_lcA z.cps.toList (fun c => rBl (decide (c ∈ abc))) (src_str (ev_var rfl)) (fun _ _ => gt_name) (fun _ h => h) ?_ (fun c hc => (ev_opV (ev_var rfl) ev_c rv_inSg))).ev ?_) ea_nil) (rc_all (cs := z.cps.toList.map fun c => decide (c ∈ abc))))) k
  · omega
  · rw [Array.length_toList]
    have : z.cps.size = z.length := rfl
    omega
  · rw [List.map_map]
    rfl
def CT_L_law_whole : Option Addr → List Rep → Rep → Prop := fun _ rs R => ∃ v l h, rs = [rInt v, rInt l, rInt h] ∧ R = rBl (decide (l ≤ v) && decide (v ≤ h))
theorem len_L_law_whole : ∀ b rs R, CT_L_law_whole b rs R → rs.length = 3 := fun _ _ _ ⟨_, _, _, e, _⟩ => by rw [e]; rfl
theorem sc_L_law_whole : FnScope ["_law_value", "_law_low", "_law_high"] ["_law_value", "_law_low", "_law_high"] K9H.d_L_law_whole.scope := ⟨rfl, rfl, rfl, by decide +kernel, rfl, by decide +kernel, by decide +kernel⟩
theorem c_L_law_whole (X : K.In hp) (G : hp.Ns mainGlobals mg) (c : K9H.Sy K) : Cal P w K mg base 1 "_law_whole" (SpD CT_L_law_whole) [] := by
  obtain ⟨fd, F⟩ := c.def_ 38 (d := K9H.d_L_law_whole) rfl
  have F : FunD K K9H.d_L_law_whole.name K9H.d_L_law_whole.qual K9H.d_L_law_whole.params K9H.d_L_law_whole.body K9H.d_L_law_whole.scope [] [] _ fd := F
  have T := txt X G c
  have sc := sc_L_law_whole
  refine calD F (He.glo_ok X G (c.fact 26 (f := .glo "_law_whole") rfl)) (bindsD F fun _ _ _ _ _ _ us hl => match us, hl with | [_, _, _], _ => rfl) (fnD (ps := ["_law_value", "_law_low", "_law_high"]) F sc CT_L_law_whole ?_ ?_)
  case refine_1 => exact len_L_law_whole
  refine fun cdv A outer s H E hr => ⟨_, (pss_one (ps_ret (pe_and (pe_callB (id := "isinstance") (call_isiK (K := K) rfl) (by rfl) T.z_isinstance (by decide +kernel) (pa_cons (pv 0) (pa_cons (pe_bltn (v := .ty "int") (by rfl) T.z_int (by decide +kernel) rfl) pa_nil))) (pe_and (pe_not (pe_callB (id := "isinstance") (call_isiK (K := K) rfl) (by rfl) T.z_isinstance (by decide +kernel) (pa_cons (pv 0) (pa_cons (pe_bltn (v := .ty "bool") (by rfl) T.z_bool (by decide +kernel) rfl) pa_nil)))) (pe_one (pe_chain op_le op_le (pv 1) (pv 0) (pv 2))))))), fun B Q rs R hC hgs k => ?_⟩
  obtain ⟨v, l, h, rfl, rfl⟩ := hC
  exact w_ret (R := rBl (decide (l ≤ v) && decide (v ≤ h))) (ev_bl (ev_andV (ev_isi (c := true) (ev_var rfl) ty_int (by decide +kernel)) fun _ => (ev_andV (ev_notV (ev_isi (c := false) (ev_var rfl) ty_int (by decide +kernel))) fun _ => (ev_chain (ev_var rfl) (ev_var rfl) rv_I0 (fun _ => (ev_var rfl)) fun _ => rv_I0))) rfl) k
def CT_L_law_four : Option Addr → List Rep → Rep → Prop := fun _ rs R => rs = [] ∧ R = rCells fourD
theorem len_L_law_four : ∀ b rs R, CT_L_law_four b rs R → rs.length = 0 := fun _ _ _ ⟨e, _⟩ => by rw [e]; rfl
theorem sc_L_law_four : FnScope [] [] K9H.d_L_law_four.scope := ⟨rfl, rfl, rfl, by decide +kernel, rfl, by decide +kernel, by decide +kernel⟩
theorem c_L_law_four (X : K.In hp) (G : hp.Ns mainGlobals mg) (c : K9H.Sy K) : Cal P w K mg base 1 "_law_four" (SpD CT_L_law_four) [] := by
  obtain ⟨fd, F⟩ := c.def_ 39 (d := K9H.d_L_law_four) rfl
  have F : FunD K K9H.d_L_law_four.name K9H.d_L_law_four.qual K9H.d_L_law_four.params K9H.d_L_law_four.body K9H.d_L_law_four.scope [] [] _ fd := F
  have T := txt X G c
  have sc := sc_L_law_four
  refine calD F (He.glo_ok X G (c.fact 27 (f := .glo "_law_four") rfl)) (bindsD F fun _ _ _ _ _ _ us hl => match us, hl with | [], _ => rfl) (fnD (ps := []) F sc CT_L_law_four ?_ ?_)
  case refine_1 => exact len_L_law_four
  refine fun cdv A outer s H E hr => ⟨_, (pss_one (ps_ret (pe_lst (pa_cons (pe_tup (pa_cons (pe_un un_neg pe_int) (pa_cons pe_int pa_nil))) (pa_cons (pe_tup (pa_cons pe_int (pa_cons (pe_un un_neg pe_int) pa_nil))) (pa_cons (pe_tup (pa_cons pe_int (pa_cons pe_int pa_nil))) (pa_cons (pe_tup (pa_cons pe_int (pa_cons pe_int pa_nil))) pa_nil))))))), fun B Q rs R hC hgs k => ?_⟩
  obtain ⟨rfl, rfl⟩ := hC
  exact w_ret (R := rCells fourD) (ev_lst (ea_cons (ev_tup (ea_cons (ev_neg ev_c) (ea_cons ev_c ea_nil))) (ea_cons (ev_tup (ea_cons ev_c (ea_cons (ev_neg ev_c) ea_nil))) (ea_cons (ev_tup (ea_cons ev_c (ea_cons ev_c ea_nil))) (ea_cons (ev_tup (ea_cons ev_c (ea_cons ev_c ea_nil))) ea_nil))))) k
def spotB (c : Cell) : Bool := ([c.1, c.2].map fun v => decide ((0 : Int) ≤ v) && decide (v ≤ 11)).all id
def CT_L_law_is_spot : Option Addr → List Rep → Rep → Prop := fun _ rs R => ∃ c, rs = [rCell c] ∧ R = rBl (spotB c)
theorem len_L_law_is_spot : ∀ b rs R, CT_L_law_is_spot b rs R → rs.length = 1 := fun _ _ _ ⟨_, e, _⟩ => by rw [e]; rfl
theorem sc_L_law_is_spot : FnScope ["_law_value", "_law_part"] ["_law_value"] K9H.d_L_law_is_spot.scope := ⟨rfl, rfl, rfl, by decide +kernel, rfl, by decide +kernel, by decide +kernel⟩
theorem c_L_law_is_spot (X : K.In hp) (G : hp.Ns mainGlobals mg) (c : K9H.Sy K) : Cal P w K mg base 2 "_law_is_spot" (SpD CT_L_law_is_spot) [] := by
  obtain ⟨fd, F⟩ := c.def_ 40 (d := K9H.d_L_law_is_spot) rfl
  have F : FunD K K9H.d_L_law_is_spot.name K9H.d_L_law_is_spot.qual K9H.d_L_law_is_spot.params K9H.d_L_law_is_spot.body K9H.d_L_law_is_spot.scope [] [] _ fd := F
  have T := txt X G c
  have C_L_law_whole := c_L_law_whole (P := P) (w := w) (base := base) X G c
  have sc := sc_L_law_is_spot
  refine calD F (He.glo_ok X G (c.fact 28 (f := .glo "_law_is_spot") rfl)) (bindsD F fun _ _ _ _ _ _ us hl => match us, hl with | [_], _ => rfl) (fnD (ps := ["_law_value"]) F sc CT_L_law_is_spot ?_ ?_)
  case refine_1 => exact len_L_law_is_spot
  refine fun cdv A outer s H E hr => ⟨_, (pss_one (ps_ret (pe_and (pe_callB (id := "isinstance") (call_isiK (K := K) rfl) (by rfl) T.z_isinstance (by decide +kernel) (pa_cons (pv 0) (pa_cons (pe_bltn (v := .ty "tuple") (by rfl) T.z_tuple (by decide +kernel) rfl) pa_nil))) (pe_and (pe_cmpR op_eq (pe_callB (id := "len") (call_lenK (K := K) rfl) (by rfl) T.z_len (by decide +kernel) (pa_cons (pv 0) pa_nil)) pe_int (nomark _)) (pe_one (pe_callB (id := "all") (cr_allK (K := K) rfl rfl) (by rfl) T.z_all (by decide +kernel) (pa_cons (pe_lc (own := [("_law_part", 1)]) rfl sc.nd (pi_tupK (K := K) rfl (pv 0)) (blkOk_by (by kernel_rfl)) (fun _ _ _ _ _ => (pg_name (i := 1) sc.nd rfl (by first | exact Or.inl rfl | exact Or.inr rfl))) (fun _ _ _ _ _ => pts_nil) (fun _ _ _ _ _ => (pe_c C_L_law_whole hr (by decide) (by rfl) (pa_cons (pv 1) (pa_cons pe_int (pa_cons pe_int pa_nil)))))) pa_nil))))))), fun B Q rs R hC hgs k => ?_⟩
  obtain ⟨c, rfl, rfl⟩ := hC
  refine w_ret (R := rBl (spotB c)) (ev_andV (c := true) (ev_isi (ev_var rfl) ty_T (by decide +kernel)) fun _ => ev_andV (c := true) (ev_opV (ev_lenT (ev_var rfl)) ev_c (rv_eq rfl)) fun _ => (ev_cb (ea_cons (ev_to (en_lcA [c.1, c.2] (fun v => rBl (decide ((0 : Int) ≤ v) && decide (v ≤ 11))) (F := rInt) (src_tup (ev_var rfl)) (fun _ _ => gt_name) (fun _ h => h) ?_ (fun v hv => ev_call (ea_cons (ev_var rfl) (ea_cons ev_c (ea_cons ev_c ea_nil))) ⟨v, 0, 11, rfl, rfl⟩)).ev ?_) ea_nil) (rc_all (cs := [c.1, c.2].map fun v => decide ((0 : Int) ≤ v) && decide (v ≤ 11))))) k
  · show 2 ≤ _; decide
  · rfl
def CT_L_law_edge : Option Addr → List Rep → Rep → Prop := fun _ rs R => ∃ c h w, rs = [rInt h, rInt w, rCell c] ∧ R = rBl (edgeB h w c)
theorem len_L_law_edge : ∀ b rs R, CT_L_law_edge b rs R → rs.length = 3 := fun _ _ _ ⟨_, _, _, e, _⟩ => by rw [e]; rfl
theorem sc_L_law_edge : FnScope ["_law_height", "_law_width", "_law_cell"] ["_law_height", "_law_width", "_law_cell"] K9H.d_L_law_edge.scope := ⟨rfl, rfl, rfl, by decide +kernel, rfl, by decide +kernel, by decide +kernel⟩
theorem c_L_law_edge (X : K.In hp) (G : hp.Ns mainGlobals mg) (c : K9H.Sy K) : Cal P w K mg base 1 "_law_edge" (SpD CT_L_law_edge) [] := by
  obtain ⟨fd, F⟩ := c.def_ 47 (d := K9H.d_L_law_edge) rfl
  have F : FunD K K9H.d_L_law_edge.name K9H.d_L_law_edge.qual K9H.d_L_law_edge.params K9H.d_L_law_edge.body K9H.d_L_law_edge.scope [] [] _ fd := F
  have T := txt X G c
  have sc := sc_L_law_edge
  refine calD F (He.glo_ok X G (c.fact 35 (f := .glo "_law_edge") rfl)) (bindsD F fun _ _ _ _ _ _ us hl => match us, hl with | [_, _, _], _ => rfl) (fnD (ps := ["_law_height", "_law_width", "_law_cell"]) F sc CT_L_law_edge ?_ ?_)
  case refine_1 => exact len_L_law_edge
  refine fun cdv A outer s H E hr => ⟨_, (pss_one (ps_ret (pe_or (pe_cmpR (op_in_seqK (K := K) rfl) (pe_ix (ix_tupK (K := K) rfl) (pv 2) pe_int (fun _ _ => rfl)) (pe_tup (pa_cons pe_int (pa_cons (pe_op op_sub (pv 0) pe_int) pa_nil))) (by rfl)) (pe_one (pe_cmpR (op_in_seqK (K := K) rfl) (pe_ix (ix_tupK (K := K) rfl) (pv 2) pe_int (fun _ _ => rfl)) (pe_tup (pa_cons pe_int (pa_cons (pe_op op_sub (pv 1) pe_int) pa_nil))) (by rfl)))))), fun B Q rs R hC hgs k => ?_⟩
  obtain ⟨c, h, w', rfl, rfl⟩ := hC
  exact w_ret (R := rBl (edgeB h w' c)) (ev_orV (ev_opV (ev_opV (ev_var rfl) ev_c (rv_ixT (by decide) rfl)) (ev_tup (ea_cons ev_c (ea_cons (ev_opV (ev_var rfl) ev_c rv_I0) ea_nil))) (rv_inT (ns := [_, _]))) fun _ => (ev_opV (ev_opV (ev_var rfl) ev_c (rv_ixT (by decide) rfl)) (ev_tup (ea_cons ev_c (ea_cons (ev_opV (ev_var rfl) ev_c rv_I0) ea_nil))) (rv_inT (ns := [_, _])))) k
def CT_L_law_sides : Option Addr → List Rep → Rep → Prop := fun _ rs R => ∃ c h w, rs = [rInt h, rInt w, rCell c] ∧ R = rCells (sides h w c)
theorem len_L_law_sides : ∀ b rs R, CT_L_law_sides b rs R → rs.length = 3 := fun _ _ _ ⟨_, _, _, e, _⟩ => by rw [e]; rfl
theorem sc_L_law_sides : FnScope ["_law_height", "_law_width", "_law_cell", "_law_near", "_law_a", "_law_b", "_law_one"] ["_law_height", "_law_width", "_law_cell"] K9H.d_L_law_sides.scope := ⟨rfl, rfl, rfl, by decide +kernel, rfl, by decide +kernel, by decide +kernel⟩
theorem c_L_law_sides (X : K.In hp) (G : hp.Ns mainGlobals mg) (c : K9H.Sy K) : Cal P w K mg base 2 "_law_sides" (SpD CT_L_law_sides) [] := by
  obtain ⟨fd, F⟩ := c.def_ 45 (d := K9H.d_L_law_sides) rfl
  have F : FunD K K9H.d_L_law_sides.name K9H.d_L_law_sides.qual K9H.d_L_law_sides.params K9H.d_L_law_sides.body K9H.d_L_law_sides.scope [] [] _ fd := F
  have T := txt X G c
  have C_L_law_four := c_L_law_four (P := P) (w := w) (base := base) X G c
  have sc := sc_L_law_sides
  refine calD F (He.glo_ok X G (c.fact 33 (f := .glo "_law_sides") rfl)) (bindsD F fun _ _ _ _ _ _ us hl => match us, hl with | [_, _, _], _ => rfl) (fnD (ps := ["_law_height", "_law_width", "_law_cell"]) F sc CT_L_law_sides ?_ ?_)
  case refine_1 => exact len_L_law_sides
  refine fun cdv A outer s H E hr => ⟨_, (pss_cons (ps_setLc (i := 3) (own := [("_law_a", 4), ("_law_b", 5)]) rfl sc.nd rfl rfl (sw_true rfl rfl rfl (by decide +kernel)) (pi_listK (K := K) rfl (pe_c0 C_L_law_four hr (by decide) (by rfl))) (blkOk_by (by kernel_rfl)) (fun _ _ _ _ _ => (pg_tupK (K := K) (n := 2) rfl rfl (pgs_cons (pg_name (i := 4) sc.nd rfl (by first | exact Or.inl rfl | exact Or.inr rfl)) (pgs_cons (pg_name (i := 5) sc.nd rfl (by first | exact Or.inl rfl | exact Or.inr rfl)) pgs_nil)))) (fun _ _ _ _ _ => pts_nil) (fun _ _ _ _ _ => (pe_tup (pa_cons (pe_op op_add (pe_ix (ix_tupK (K := K) rfl) (pv 2) pe_int (fun _ _ => rfl)) (pv 4)) (pa_cons (pe_op op_add (pe_ix (ix_tupK (K := K) rfl) (pv 2) pe_int (fun _ _ => rfl)) (pv 5)) pa_nil)))))
  (pss_one (ps_ret (pe_lc (own := [("_law_one", 6)]) rfl sc.nd (pi_listK (K := K) rfl (pv 3)) (blkOk_by (by kernel_rfl)) (fun _ _ _ _ _ => (pg_name (i := 6) sc.nd rfl (by first | exact Or.inl rfl | exact Or.inr rfl))) (fun _ _ _ _ _ => (pts_one (PW.pt (pw_and (pt_chain op_le op_lt pe_int (pe_ix (ix_tupK (K := K) rfl) (pv 6) pe_int (fun _ _ => rfl)) (pv 0)) (pw_and1 (pt_chain op_le op_lt pe_int (pe_ix (ix_tupK (K := K) rfl) (pv 6) pe_int (fun _ _ => rfl)) (pv 1))))))) (fun _ _ _ _ _ => (pv 6)))))), fun B Q rs R hC hgs k => ?_⟩
  obtain ⟨c, h, w', rfl, rfl⟩ := hC
  refine q_asg (R := rCells (near c)) (ev_to (en_lcA fourD (fun d => rCell (c.1 + d.1, c.2 + d.2)) (F := rCell) (src_list (ev_call ea_nil ⟨rfl, rfl⟩)) (fun d _ => gt_tup2 gt_name gt_name) (fun _ h => h) (by show 4 ≤ _; decide) (fun d hd => (ev_tup (ea_cons (ev_opV (ev_opV (ev_var rfl) ev_c (rv_ixT (by decide) rfl)) (ev_var rfl) rv_I0) (ea_cons (ev_opV (ev_opV (ev_var rfl) ev_c (rv_ixT (by decide) rfl)) (ev_var rfl) rv_I0) ea_nil))))).ev ?_) ?_
  · rfl
  exact w_ret (R := rCells (sides h w' c)) (en_lc (near c) (inG h w') rCell (src_list (ev_var rfl)) (fun _ _ => gt_name) (fun _ h => h) (by show 4 ≤ _; decide) (fun x _ => (et_and (et_test (ev_chain ev_c (ev_opV (ev_var rfl) ev_c (rv_ixT (by decide) rfl)) rv_I0 (fun _ => (ev_var rfl)) fun _ => rv_I0)) fun _ => (et_test (ev_chain ev_c (ev_opV (ev_var rfl) ev_c (rv_ixT (by decide) rfl)) rv_I0 (fun _ => (ev_var rfl)) fun _ => rv_I0)))) (fun x _ _ => ev_var rfl)).ev k

end
end K9W
end
section
set_option Elab.async false
set_option linter.all false
set_option maxRecDepth 100000
set_option maxHeartbeats 4000000
namespace K9W
open PySem PySem.Spec PyProof.Rows L2 L2.K9R L2.K9A K9 K9M
open C8 (Cal Met pe_c pe_mt pe_mt0 InsC call_isC pe_gc)
section
variable {P : Program} {w : World} {K : PySem.W.Frag} {hp : Heap} {mg : Str → Option Value} {base : Heap}

theorem ck_inj {c d : Cell} (h : ck c = ck d) : c = d := by
  unfold ck at h
  injection h with h1 h2
  injection h2 with h3 h4
  injection h1 with h1
  injection h3 with h3
  exact Prod.ext h1 h3
theorem ck_mem {c : Cell} {cs : List Cell} : ck c ∈ cs.map ck ↔ c ∈ cs := by
  rw [List.mem_map]
  exact ⟨fun ⟨d, hd, e⟩ => ck_inj e ▸ hd, fun h => ⟨c, h, rfl⟩⟩
theorem ck_dec {c : Cell} {cs : List Cell} [Decidable (ck c ∈ cs.map ck)] [Decidable (c ∈ cs)] : decide (ck c ∈ cs.map ck) = decide (c ∈ cs) := by
  by_cases h : c ∈ cs
  · rw [decide_eq_true h, decide_eq_true (ck_mem.mpr h)]
  · rw [decide_eq_false h, decide_eq_false (fun q => h (ck_mem.mp q))]
theorem key_cell {c : Cell} : KeyT (rCell c) (ck c) := key_ints
theorem hSet_add {c : Cell} {cs : List Cell} (h : c ∉ cs) : hDT (if ck c ∈ cs.map ck then cs.map ck else cs.map ck ++ [ck c]) (fun _ => rBl true) = hSet (cs ++ [c]) := by
  rw [if_neg (fun q => h (ck_mem.mp q))]
  show _ = hDT ((cs ++ [c]).map ck) _
  rw [List.map_append]
  rfl
theorem zip_at {α : Type} {xs : List α} {i : Nat} {y : α × Nat} (h : xs.zipIdx[i]? = some y) : xs[i]? = some y.1 ∧ y.2 = i := by
  rw [List.getElem?_zipIdx] at h
  obtain ⟨a, ha, e⟩ := Option.map_eq_some_iff.mp h
  subst e
  exact ⟨ha, by show 0 + i = i; omega⟩
theorem take_snoc {α : Type} {xs : List α} {i : Nat} {y : α} (h : xs[i]? = some y) : xs.take (i + 1) = xs.take i ++ [y] := by
  rw [List.take_add_one, h]
  rfl
theorem nd_take {α : Type} {xs : List α} {i : Nat} {y : α} (nd : xs.Nodup) (h : xs[i]? = some y) : y ∉ xs.take i := fun q => by
  obtain ⟨j, hj⟩ := List.getElem?_of_mem q
  have hl := (List.getElem?_eq_some_iff.mp hj).1
  rw [List.length_take] at hl
  rw [List.getElem?_take_of_lt (by omega)] at hj
  have := (List.getElem?_inj (List.getElem?_eq_some_iff.mp hj).1 nd).mp (hj.trans h.symm)
  omega
def CT_check_cells : Option Addr → List Rep → Rep → Prop := fun _ rs R => ∃ cs : List Cell, cs.Nodup ∧ (∀ c ∈ cs, okC c = true) ∧ cs.length ≤ 1000 ∧ rs = [rCells cs] ∧ R = rNon
theorem len_check_cells : ∀ b rs R, CT_check_cells b rs R → rs.length = 1 := fun _ _ _ ⟨_, _, _, _, e, _⟩ => by rw [e]; rfl
theorem sc_check_cells : FnScope ["cells", "seen", "at", "cell"] ["cells"] K9H.d_check_cells.scope := ⟨rfl, rfl, rfl, by decide +kernel, rfl, by decide +kernel, by decide +kernel⟩
theorem c_check_cells (X : K.In hp) (G : hp.Ns mainGlobals mg) (c : K9H.Sy K) : Cal P w K mg base 4 "check_cells" (SpD CT_check_cells) [] := by
  obtain ⟨fd, F⟩ := c.def_ 5 (d := K9H.d_check_cells) rfl
  have F : FunD K K9H.d_check_cells.name K9H.d_check_cells.qual K9H.d_check_cells.params K9H.d_check_cells.body K9H.d_check_cells.scope [] [] _ fd := F
  have T := txt X G c
  have C_is_cell := c_is_cell (P := P) (w := w) (base := base) X G c
  have sc := sc_check_cells
  refine calD F (He.glo_ok X G (c.fact 5 (f := .glo "check_cells") rfl)) (bindsD F fun _ _ _ _ _ _ us hl => match us, hl with | [_], _ => rfl) (fnD (ps := ["cells"]) F sc CT_check_cells ?_ ?_)
  case refine_1 => exact len_check_cells
  refine fun cdv A outer s H E hr => ⟨_, (pss_cons (ps_if (pt_not (pt_val (pe_callB (id := "isinstance") (call_isiTK (K := K) rfl) (by rfl) T.z_isinstance (by decide +kernel) (pa_cons (pv 0) (pa_cons (pe_tup (pa_cons (pe_bltn (v := .ty "list") (by rfl) T.z_list (by decide +kernel) rfl) (pa_cons (pe_bltn (v := .ty "tuple") (by rfl) T.z_tuple (by decide +kernel) rfl) pa_nil))) pa_nil)))))
  (pss_one ps_never)
  pss_nil)
  (pss_cons (ps_set (i := 1) sc.nd rfl (by first | exact Or.inl rfl | exact Or.inr rfl) pe_dnewT)
  (pss_one (ps_for PassesOwn.never rfl (pi_enum (by rfl) T.z_enumerate (pa_cons (pv 0) pa_nil)) (pg_tupK (K := K) (n := 2) rfl rfl (pgs_cons (pg_name (i := 2) sc.nd rfl (by first | exact Or.inl rfl | exact Or.inr rfl)) (pgs_cons (pg_name (i := 3) sc.nd rfl (by first | exact Or.inl rfl | exact Or.inr rfl)) pgs_nil)))
  (pss_cons (ps_if (PW.pt (pw_or (pt_not (pt_val (pe_c C_is_cell hr (by decide) (by rfl) (pa_cons (pv 3) pa_nil)))) (pw_or1 (pt_cmp (pc_din (hu_of hr) (pv 3) (pv 1))))))
  (pss_one ps_never)
  pss_nil)
  (pss_one (ps_dput (hu_of hr) (pv 1) (pv 3) pe_bl rfl))))))), fun B Q rs R hC hgs k => ?_⟩
  obtain ⟨cs, nd, ok, hl, rfl, rfl⟩ := hC
  refine q_no (et_to (et_not (et_B (ev_isiT (c := true) (ev_var rfl) ty_L (by decide +kernel)))) rfl) (q_new (en_dT' (f := fun _ => rBl true)) fun p => ?_)
  refine w_for (src_enum (Gf := rCell) (xs := cs) (ea_cons (ev_var rfl) ea_nil)) (fun (i x : Nat) => x = i) (fun x => [(p, hSet (cs.take x))]) (fun _ => [some (rCells cs), some (rAt p), none, none]) 0 rfl rfl ⟨rfl, rfl, True.intro⟩ (fun _ _ => gt_tup2 gt_name gt_name) ?_ ?_
  · rintro gs i ⟨c, j⟩ x hy rfl
    obtain ⟨hc, _⟩ := zip_at hy
    have hm : c ∈ cs := List.mem_of_getElem? hc
    have hn := nd_take nd hc
    refine q_no (et_to (et_or (et_not (et_B (ev_call (ea_cons (ev_var rfl) ea_nil) ⟨_, rfl, rfl⟩))) fun _ => (et_B (ev_din (ev_var rfl) (ev_var rfl) key_cell (fun _ => dat_hot (by first | exact List.mem_cons_self | exact List.mem_cons_of_mem _ List.mem_cons_self | exact List.mem_cons_of_mem _ (List.mem_cons_of_mem _ List.mem_cons_self)))))) ?_) ?_
    · rw [ok c hm, ck_dec, decide_eq_false hn]
      rfl
    refine w_dput (n := 0) (f' := fun _ => rBl true) rfl ev_c (ev_var rfl) (ev_var rfl) key_cell ?_ (fun _ _ h => h) (fun _ _ _ _ _ h => h) ?_
    · rw [List.length_map, List.length_take]
      omega
    · dsimp only
      refine n_inv (x + 1) rfl ?_ (by exact ⟨rfl, rfl, True.intro⟩)
      show [(p, hDT _ _)] = [(p, hSet _)]
      rw [hSet_add hn, take_snoc hc]
  · rintro x rfl
    exact n_fall k fun _ => rfl
def CT_L_law_all_cells : Option Addr → List Rep → Rep → Prop := fun _ rs R => ∃ h w : Nat, h ≤ 12 ∧ w ≤ 12 ∧ rs = [rInt h, rInt w] ∧ R = rCells (allC h w)
theorem len_L_law_all_cells : ∀ b rs R, CT_L_law_all_cells b rs R → rs.length = 2 := fun _ _ _ ⟨_, _, _, _, e, _⟩ => by rw [e]; rfl
theorem allC_succ (h w : Nat) : allC (h + 1) w = allC h w ++ rowC w h := by
  unfold allC
  rw [List.range_succ, List.map_append, List.flatten_append]
  simp
theorem allC_len : ∀ (h w : Nat), (allC h w).length = h * w
  | 0, w => by simp [allC]
  | h + 1, w => by
    rw [allC_succ, List.length_append, allC_len h w, Nat.succ_mul]
    simp [rowC]
theorem allC_144 {h w : Nat} (h1 : h ≤ 12) (h2 : w ≤ 12) : (allC h w).length ≤ 144 := by
  rw [allC_len]
  exact Nat.mul_le_mul h1 h2
theorem sc_L_law_all_cells : FnScope ["_law_height", "_law_width", "_law_found", "_law_row", "_law_column"] ["_law_height", "_law_width"] K9H.d_L_law_all_cells.scope := ⟨rfl, rfl, rfl, by decide +kernel, rfl, by decide +kernel, by decide +kernel⟩
theorem c_L_law_all_cells (X : K.In hp) (G : hp.Ns mainGlobals mg) (c : K9H.Sy K) : Cal P w K mg base 1 "_law_all_cells" (SpD CT_L_law_all_cells) [] := by
  obtain ⟨fd, F⟩ := c.def_ 43 (d := K9H.d_L_law_all_cells) rfl
  have F : FunD K K9H.d_L_law_all_cells.name K9H.d_L_law_all_cells.qual K9H.d_L_law_all_cells.params K9H.d_L_law_all_cells.body K9H.d_L_law_all_cells.scope [] [] _ fd := F
  have T := txt X G c
  have sc := sc_L_law_all_cells
  refine calD F (He.glo_ok X G (c.fact 31 (f := .glo "_law_all_cells") rfl)) (bindsD F fun _ _ _ _ _ _ us hl => match us, hl with | [_, _], _ => rfl) (fnD (ps := ["_law_height", "_law_width"]) F sc CT_L_law_all_cells ?_ ?_)
  case refine_1 => exact len_L_law_all_cells
  refine fun cdv A outer s H E hr => ⟨_, (pss_cons (ps_set (i := 2) sc.nd rfl (by first | exact Or.inl rfl | exact Or.inr rfl) (pe_lst pa_nil))
  (pss_cons (ps_for PassesOwn.never rfl (pi_range1 (by rfl) T.z_range (pa_cons (pv 0) pa_nil)) (pg_name (i := 3) sc.nd rfl (by first | exact Or.inl rfl | exact Or.inr rfl))
  (pss_one (ps_set (i := 2) sc.nd rfl (by first | exact Or.inl rfl | exact Or.inr rfl) (pe_op op_cat (pv 2) (pe_lc (own := [("_law_column", 4)]) rfl sc.nd (pi_range1 (by rfl) T.z_range (pa_cons (pv 1) pa_nil)) (blkOk_by (by kernel_rfl)) (fun _ _ _ _ _ => (pg_name (i := 4) sc.nd rfl (by first | exact Or.inl rfl | exact Or.inr rfl))) (fun _ _ _ _ _ => pts_nil) (fun _ _ _ _ _ => (pe_tup (pa_cons (pv 3) (pa_cons (pv 4) pa_nil)))))))))
  (pss_one (ps_ret (pv 2))))), fun B Q rs R hC hgs k => ?_⟩
  obtain ⟨h, w', h1, h2, rfl, rfl⟩ := hC
  refine q_asg (R := rCells []) (ev_lst ea_nil) ?_
  refine q_for (src_range (n := (h : Int)) (ea_cons (ev_var rfl) ea_nil) (by omega) (by omega)) (fun (i x : Nat) => x = i) (fun _ => []) (fun x => [some (rInt h), some (rInt w'), some (rCells (allC x w')), none, none]) 0 rfl rfl ⟨rfl, rfl, rfl, True.intro⟩ (fun _ _ => gt_name) ?_ ?_
  · rintro gs i y x hy rfl
    have hy' : y = x := by
      have := List.getElem?_eq_some_iff.mp hy
      obtain ⟨_, e⟩ := this
      simpa using e.symm
    have hx : x < h := by
      have := (List.getElem?_eq_some_iff.mp hy).1
      simpa using this
    subst hy'
    have := allC_144 (h := y) (w := w') (by omega) h2
    refine w_asg (R := rCells (allC (y + 1) w')) (ev_to (ev_opV (ev_var rfl) (ev_to (en_lcA (List.range w') (fun (c : Nat) => rCell ((y : Int), (c : Int))) (src_range (n := (w' : Int)) (ea_cons (ev_var rfl) ea_nil) (by omega) (by omega)) (fun _ _ => gt_name) (fun _ h => h) ?_ (fun d hd => (ev_tup (ea_cons (ev_var rfl) (ea_cons (ev_var rfl) ea_nil))))).ev ?_) (rv_cat (rs' := (rowC w' y).map rCell) ?_)) ?_) ?_
    · rw [List.length_range]
      omega
    · unfold rowC
      rw [List.map_map]
      rfl
    · rw [List.length_map, List.length_map]
      simp [rowC]
      omega
    · show rL _ = rL (List.map rCell (allC (y + 1) w'))
      rw [allC_succ, List.map_append]
    · dsimp only
      exact n_inv (y + 1) rfl rfl ⟨rfl, rfl, rfl, True.intro⟩
  · rintro x hx
    rw [List.length_range] at hx
    have hx : x = h := by omega
    subst hx
    exact w_ret (ev_var rfl) k

def CT_group_of : Option Addr → List Rep → Rep → Prop := fun _ rs R => ∃ (s : Cell) (ks : List Cell), s ∈ ks ∧ ks.length ≤ 1000 ∧ (∀ c ∈ ks, okC c = true) ∧ rs = [rCell s, rSet ks, rBl false] ∧
  R = rEx (fun xs : List Cell => xs.Nodup ∧ (∀ x ∈ xs, x ∈ ks) ∧ ∀ t, Reach (· ∈ ks) s t → t ∈ xs) rCells
theorem len_group_of : ∀ b rs R, CT_group_of b rs R → rs.length = 3 := fun _ _ _ ⟨_, _, _, _, _, e, _⟩ => by rw [e]; rfl
def unck (k : List Key) : Cell := match k with
  | [.inl a, .inl b] => (a, b)
  | _ => (0, 0)
theorem unck_ck (c : Cell) : unck (ck c) = c := rfl
theorem cell_of_key {ks : List Cell} (k : List Key) (q : Addr) (M : Hp) (hk : k ∈ ks.map ck) (h : M q = some (.tup (k.map kV))) : (rCell (unck k)).P (.ref q) M := by
  obtain ⟨c, _, rfl⟩ := List.mem_map.mp hk
  exact ⟨q, _, rfl, h, rfl, rfl, True.intro⟩
theorem map_unck (ks : List Cell) : (ks.map ck).map (fun k => rCell (unck k)) = ks.map rCell := by
  rw [List.map_map]
  rfl
theorem bes_len (c : Cell) : (bes c).length ≤ 4 := List.length_filter_le _ _
theorem dp_nil : IsDp K (rL []) (.list []) := dp_list (f := rCel) (g := pyC) (xs := []) fun _ h => nomatch h
theorem sc_group_of : FnScope ["start", "known", "by_points", "seen", "left", "cell", "place"] ["start", "known", "by_points"] K9H.d_group_of.scope := ⟨rfl, rfl, rfl, by decide +kernel, rfl, by decide +kernel, by decide +kernel⟩
theorem c_group_of (X : K.In hp) (G : hp.Ns mainGlobals mg) (c : K9H.Sy K) : Cal P w K mg base 5 "group_of" (SpD CT_group_of) [] := by
  obtain ⟨fd, F⟩ := c.def_ 6 (d := K9H.d_group_of) rfl
  have F : FunD K K9H.d_group_of.name K9H.d_group_of.qual K9H.d_group_of.params K9H.d_group_of.body K9H.d_group_of.scope [] [] _ fd := F
  have T := txt X G c
  have C_beside := c_beside (P := P) (w := w) (base := base) X G c
  have sc := sc_group_of
  refine calD F (He.glo_ok X G (c.fact 6 (f := .glo "group_of") rfl)) (bindsD F fun _ _ _ _ _ _ us hl => match us, hl with | [_, _, _], _ => rfl) (fnD (ps := ["start", "known", "by_points"]) F sc CT_group_of ?_ ?_)
  case refine_1 => exact len_group_of
  refine fun cdv A outer s H E hr => ⟨_, (pss_cons (ps_par (i := 3) (j := 4) rfl sc.nd rfl rfl (by decide) rfl rfl (pa_cons (pe_dispT (hu_of hr) (pv 0) pe_bl) (pa_cons (pe_lst (pa_cons (pv 0) pa_nil)) pa_nil)) (by rfl))
  (pss_cons (ps_while PassesOwn.never (pt_cmpR (op_neDK (K := K) (hu64_of hr) rfl) (pv 4) (pe_lst pa_nil) (nomark _))
  (pss_cons (ps_set (i := 5) sc.nd rfl (by first | exact Or.inl rfl | exact Or.inr rfl) (pe_bm0 PySem.F.plainAttrs_list PySem.F.slot_list_pop PySem.F.type_list_pop mt_pop (pv 4)))
  (pss_one (ps_for PassesOwn.never rfl (pi_listK (K := K) rfl (pe_ifExp (pt_val (pv 2)) pe_never (pe_c C_beside hr (by decide) (by rfl) (pa_cons (pv 5) pa_nil)))) (pg_name (i := 6) sc.nd rfl (by first | exact Or.inl rfl | exact Or.inr rfl))
  (pss_one (ps_if (PW.pt (pw_and (pt_cmp (pc_din (hu_of hr) (pv 6) (pv 1))) (pw_and1 (pt_cmp (pc_dnotin (hu_of hr) (pv 6) (pv 3))))))
  (pss_cons (ps_dput (hu_of hr) (pv 3) (pv 6) pe_bl rfl)
  (pss_one (ps_expr (pe_bm PySem.F.plainAttrs_list PySem.F.slot_list_append PySem.F.type_list_append mt_append (pv 4) (pa_cons (pv 6) pa_nil)))))
  pss_nil))))))
  (pss_one (ps_ret (pe_callB (id := "sorted") cr_sortedPO (by rfl) T.z_sorted (by decide +kernel) (pa_cons (pe_callTy (T := "list") (call_listT rfl) (by rfl) T.z_list (by decide +kernel) (pa_cons (pv 3) pa_nil)) pa_nil)))))), fun B Q rs R hC hgs k => ?_⟩
  obtain ⟨s, ks, hs, hl, ok, rfl, rfl⟩ := hC
  refine w_seq ?_
  refine w_par2 (h1 := hSet [s]) (h2 := hL [rCell s]) (en_dispT (ev_var rfl) ev_c key_cell (fun _ _ h => h)) (fun p => en_lst (ea_cons (ev_var rfl) ea_nil) (by exact Nat.le_of_ble_eq_true rfl)) fun p q => ?_
  dsimp only
  refine q_while (fun (m : Nat) (x : List Cell × List Cell) => m = 2 * (ks.length - x.1.length) + x.2.length ∧ m ≤ 2 * ks.length ∧ Dfs ks s x.1 x.2) (fun x => [(q, hL (x.2.map rCell)), (p, hSet x.1)]) (fun _ => [some (rCell s), some (rSet ks), some (rBl false), some (rAt p), some (rAt q), none, none]) _ ([s], [s]) ⟨rfl, ?_, ?_⟩ rfl ⟨rfl, rfl, rfl, rfl, rfl, True.intro⟩ ?_
  · have h1 : 1 ≤ ks.length := List.length_pos_of_mem hs
    show 2 * (ks.length - 1) + 1 ≤ _
    omega
  · exact ⟨List.nodup_cons.mpr ⟨fun h => (nomatch h), List.nodup_nil⟩, fun x hx => by rw [List.mem_singleton.mp hx]; exact hs, List.mem_singleton.mpr rfl, fun _ h => h, fun x hx hn => absurd hx hn⟩
  rintro m ⟨seen, left⟩ ⟨hm, hm2, df⟩
  have hm : m = 2 * (ks.length - seen.length) + left.length := hm
  have df : Dfs ks s seen left := df
  have sl : seen.length ≤ ks.length := nd_len df.nd df.sub
  refine ⟨!decide (left = []), ?_, fun hne => ?_, fun hne => ?_⟩
  · refine et_to (et_test (ev_opV (ev_var rfl) (ev_lst ea_nil) (rv_neH (dl_lat (lat_hot List.mem_cons_self) (fun c _ => dp_C)) (dl_data dp_nil) ((shp_Cs left).ok (by decide)) ((shp_Cs []).ok (by decide))))) ?_
    rw [eqv_nil]
    cases left <;> rfl
  · obtain ⟨l0, c, rfl⟩ : ∃ l0 c, left = l0 ++ [c] := by
      rcases List.eq_nil_or_concat left with e | ⟨l0, c, e⟩
      · subst e
        cases hne
      · exact ⟨l0, c, by rw [e, List.concat_eq_append]⟩
    rw [List.length_append] at hm
    have hm : m = 2 * (ks.length - seen.length) + (l0.length + 1) := hm
    show N _ [(q, hL ((l0 ++ [c]).map rCell)), (p, hSet seen)] _ _
    rw [List.map_append]
    refine q_pop (n := 0) (rs := l0.map rCell) (R := rCell c) rfl (ev_var rfl) ?_
    refine w_for (ys := bes c) (F := rCell) (src_list (ev_if (c := false) (et_B (ev_var rfl)) (fun h => nomatch h) (fun _ => ev_call (ea_cons (ev_var rfl) ea_nil) ⟨_, rfl, rfl⟩))) (fun (i : Nat) (x : List Cell × List Cell) => DfsC ks s c i x.1 x.2 ∧ 2 * (ks.length - x.1.length) + x.2.length < m) (fun x => [(q, hL (x.2.map rCell)), (p, hSet x.1)]) (fun _ => [some (rCell s), some (rSet ks), some (rBl false), some (rAt p), some (rAt q), some (rCell c), none]) (seen, l0) ⟨df.pop, by show 2 * (ks.length - seen.length) + l0.length < m; omega⟩ rfl ⟨rfl, rfl, rfl, rfl, rfl, rfl, True.intro⟩ (fun _ _ => gt_name) ?_ ?_
    · rintro gs i u ⟨se, le⟩ hu ⟨dc, hlt⟩
      have hlt : 2 * (ks.length - se.length) + le.length < m := hlt
      have dc : DfsC ks s c i se le := dc
      have sl2 : se.length ≤ ks.length := nd_len dc.nd dc.sub
      have ll2 : le.length ≤ 100000 := by omega
      refine w_when (c := decide (u ∈ ks) && !decide (u ∈ se)) (et_to (et_and (et_B (ev_din (ev_var rfl) (ev_var rfl) key_cell (fun _ => dat_data))) fun _ => (et_B (ev_dnotin (ev_var rfl) (ev_var rfl) key_cell (fun _ => dat_hot (by first | exact List.mem_cons_self | exact List.mem_cons_of_mem _ List.mem_cons_self | exact List.mem_cons_of_mem _ (List.mem_cons_of_mem _ List.mem_cons_self)))))) ?_) (fun hc => ?_) (fun hc => ?_)
      · rw [ck_dec, ck_dec]
      · rw [Bool.and_eq_true] at hc
        have hk : u ∈ ks := of_decide_eq_true hc.1
        have hn : u ∉ se := by simpa using hc.2
        refine w_seq (w_dput (n := 1) (f' := fun _ => rBl true) rfl ev_c (ev_var rfl) (ev_var rfl) key_cell (by rw [List.length_map]; show se.length ≤ _; omega) (fun _ _ h => h) (fun _ _ _ _ _ h => h) ?_)
        dsimp only
        refine w_app (n := 0) (rs := le.map rCell) (R := rCell u) rfl (ev_var rfl) (ev_var rfl) (by rw [List.length_map]; exact ll2) ?_
        dsimp only
        have hsub : (se ++ [u]).length ≤ ks.length := nd_len (dc.add hu hk hn).nd (dc.add hu hk hn).sub
        refine n_inv (se ++ [u], le ++ [u]) ⟨dc.add hu hk hn, ?_⟩ ?_ (by exact ⟨rfl, rfl, rfl, rfl, rfl, rfl, True.intro⟩)
        · show 2 * (ks.length - (se ++ [u]).length) + (le ++ [u]).length < m
          rw [List.length_append] at hsub ⊢
          rw [List.length_append]
          have : [u].length = 1 := rfl
          omega
        · show [(q, hL (le.map rCell ++ [rCell u])), (p, hDT _ _)] = [(q, hL ((le ++ [u]).map rCell)), (p, hSet (se ++ [u]))]
          rw [hSet_add hn, List.map_append]
          rfl
      · dsimp only
        refine n_inv (se, le) ⟨dc.skip hu fun hk => ?_, hlt⟩ rfl (by exact ⟨rfl, rfl, rfl, rfl, rfl, rfl, True.intro⟩)
        rw [decide_eq_true hk] at hc
        simpa using hc
    · rintro ⟨se, le⟩ ⟨dc, hlt⟩
      dsimp only
      exact n_wh (se, le) hlt ⟨rfl, Nat.le_of_lt (Nat.lt_of_lt_of_le hlt hm2), dc.end_ ok⟩ rfl (by exact ⟨rfl, rfl, rfl, rfl, rfl, True.intro⟩)
  · have hnil : left = [] := by simpa using hne
    subst hnil
    refine w_ret (R := rEx (fun xs : List Cell => xs.Nodup ∧ (∀ x ∈ xs, x ∈ ks) ∧ ∀ t, Reach (· ∈ ks) s t → t ∈ xs) rCells) (EV.up (en_sortedC (R := rCells seen) (cs := seen) (ev_to (en_listT (kr := fun k => rCell (unck k)) (ev_var rfl) (fun _ => dat_hot (by exact List.mem_cons_of_mem _ List.mem_cons_self)) (fun k q M hk h => cell_of_key k q M hk h)).ev ?_) lat_data).evX ?_) k
    · show rL _ = rL _
      rw [map_unck]
    · rintro v M ⟨xs, ⟨hp, _⟩, hv⟩
      exact ⟨xs, ⟨hp.nodup_iff.mpr df.nd, fun x hx => df.sub x (hp.mem_iff.mp hx), fun t ht => hp.mem_iff.mpr (df.done t ht)⟩, hv⟩

end
end K9W
end
section
set_option Elab.async false
set_option linter.all false
set_option maxRecDepth 100000
set_option maxHeartbeats 4000000
namespace K9W
open PySem PySem.Spec PyProof.Rows L2 L2.K9R L2.K9A K9 K9M
open C8 (Cal Met pe_c pe_mt pe_mt0 InsC call_isC pe_gc)
section
variable {P : Program} {w : World} {K : PySem.W.Frag} {hp : Heap} {mg : Str → Option Value} {base : Heap}

theorem nd_ck {cs : List Cell} (nd : cs.Nodup) : (cs.map ck).Nodup := List.Pairwise.map ck (fun a b h e => h (ck_inj e)) nd
/-- the dict {cell: True for cell in cells} -/
theorem en_known {b : Option Addr} {hs : Hs} {es : Es} {j : Nat} {cs : List Cell} {wi : TI} (nd : cs.Nodup) (hl : cs.length ≤ 1000) (src : SRC b hs es wi (cs.map rCell)) (hj : ∀ c : Cell, ((wipeE es [j]).set j (some (rCell c)))[j]? = some (some (rCell c))) : EN b hs es (tDcT wi (gName j) tYes (tVar j) (tC (.bl true)) [j]) (hSet cs) :=
  en_dcT cs ck (fun _ => rBl true) src (fun _ _ => gt_name) (fun _ h => h) (nd_ck nd) (by omega) (fun c _ => ⟨rCell c, ev_var (hj c), key_cell⟩) (fun c _ => ⟨rBl true, ev_c, fun _ _ h => h⟩)
def CT_groups : Option Addr → List Rep → Rep → Prop := fun _ rs R => ∃ cs : List Cell, cs.Nodup ∧ cs ≠ [] ∧ Conn (· ∈ cs) ∧ (∀ c ∈ cs, okC c = true) ∧ cs.length ≤ 1000 ∧ rs = [rCells cs, rBl false] ∧ R = rEx (fun _ : List Cell => True) (fun g => rL [rCells g])
theorem len_groups : ∀ b rs R, CT_groups b rs R → rs.length = 2 := fun _ _ _ ⟨_, _, _, _, _, _, e, _⟩ => by rw [e]; rfl
theorem sc_groups : FnScope ["cells", "by_points", "known", "seen", "found", "cell", "group", "place"] ["cells", "by_points"] K9H.d_groups.scope := ⟨rfl, rfl, rfl, by decide +kernel, rfl, by decide +kernel, by decide +kernel⟩
theorem c_groups (X : K.In hp) (G : hp.Ns mainGlobals mg) (c : K9H.Sy K) : Cal P w K mg base 6 "groups" (SpD CT_groups) [] := by
  obtain ⟨fd, F⟩ := c.def_ 7 (d := K9H.d_groups) rfl
  have F : FunD K K9H.d_groups.name K9H.d_groups.qual K9H.d_groups.params K9H.d_groups.body K9H.d_groups.scope [] [] _ fd := F
  have T := txt X G c
  have C_group_of := c_group_of (P := P) (w := w) (base := base) X G c
  have sc := sc_groups
  refine calD F (He.glo_ok X G (c.fact 7 (f := .glo "groups") rfl)) (bindsD F fun _ _ _ _ _ _ us hl => match us, hl with | [_, _], _ => rfl) (fnD (ps := ["cells", "by_points"]) F sc CT_groups ?_ ?_)
  case refine_1 => exact len_groups
  refine fun cdv A outer s H E hr => ⟨_, (pss_cons (ps_par3 (i := 2) (j := 3) (l := 4) rfl sc.nd rfl rfl rfl (by decide) (by decide) (by decide) rfl rfl rfl (pa_cons (pe_dcT (hu_of hr) (own := [("cell", 5)]) rfl sc.nd (pi_listK (K := K) rfl (pv 0)) (blkOk_by (by kernel_rfl)) (fun _ _ _ _ _ => (pg_name (i := 5) sc.nd rfl (by first | exact Or.inl rfl | exact Or.inr rfl))) (fun _ _ _ _ _ => pts_nil) (fun _ _ _ _ _ => (pv 5)) (fun _ _ _ _ _ => pe_bl)) (pa_cons pe_dnewT (pa_cons (pe_lst pa_nil) pa_nil))) (by rfl))
  (pss_cons (ps_for PassesOwn.never rfl (pi_listK (K := K) rfl (pe_callB (id := "sorted") cr_sortedPO (by rfl) T.z_sorted (by decide +kernel) (pa_cons (pe_callTy (T := "list") (call_list_ofK (K := K) rfl) (by rfl) T.z_list (by decide +kernel) (pa_cons (pv 0) pa_nil)) pa_nil))) (pg_name (i := 5) sc.nd rfl (by first | exact Or.inl rfl | exact Or.inr rfl))
  (pss_one (ps_if (pt_cmp (pc_dnotin (hu_of hr) (pv 5) (pv 3)))
  (pss_cons (ps_set (i := 6) sc.nd rfl (by first | exact Or.inl rfl | exact Or.inr rfl) (pe_c C_group_of hr (by decide) (by rfl) (pa_cons (pv 5) (pa_cons (pv 2) (pa_cons (pv 1) pa_nil)))))
  (pss_cons (ps_expr (pe_bm PySem.F.plainAttrs_list PySem.F.slot_list_append PySem.F.type_list_append mt_append (pv 4) (pa_cons (pv 6) pa_nil)))
  (pss_one (ps_for PassesOwn.never rfl (pi_listK (K := K) rfl (pv 6)) (pg_name (i := 7) sc.nd rfl (by first | exact Or.inl rfl | exact Or.inr rfl))
  (pss_one (ps_dput (hu_of hr) (pv 3) (pv 7) pe_bl rfl))))))
  pss_nil)))
  (pss_one (ps_ret (pv 4))))), fun B Q rs R hC hgs k => ?_⟩
  obtain ⟨cs, nd, ne, cn, ok, hl, rfl, rfl⟩ := hC
  refine w_seq ?_
  refine w_par3 (Ra := rSet cs) (h2 := hSet []) (h3 := hL []) (en_known nd hl (src_list (ev_var rfl)) (fun _ => rfl)).ev en_dT' (fun q => en_lst ea_nil (by exact Nat.zero_le _)) fun q r => ?_
  dsimp only
  refine q_forX (src_listX (EN.evX (en_sortedC (R := rCells cs) (en_list (ev_var rfl) lat_data).ev lat_data))) fun ds hds wi' src => ?_
  obtain ⟨hp, _⟩ := hds
  refine w_for1 src (fun (i : Nat) (x : List (List Cell) × List Cell) => (i = 0 ∧ x = ([], [])) ∨ ∃ g, x = ([g], g) ∧ ∀ c ∈ cs, c ∈ g) (fun x => [(r, hL (x.1.map rCells)), (q, hSet x.2)]) (fun _ => [some (rCells cs), some (rBl false), some (rSet cs), some (rAt q), some (rAt r), none, none, none]) ([], []) (Or.inl ⟨rfl, rfl⟩) rfl ⟨rfl, rfl, rfl, rfl, rfl, True.intro⟩ (fun _ _ => gt_name) ?_ ?_
  · rintro gs i c x hy hx
    have hc : c ∈ cs := hp.mem_iff.mp (List.mem_of_getElem? hy)
    rcases hx with ⟨_, rfl⟩ | ⟨g, rfl, hg⟩
    · refine w_when (c := true) (et_to (et_B (ev_dnotin (ev_var rfl) (ev_var rfl) key_cell (fun _ => dat_hot (by first | exact List.mem_cons_self | exact List.mem_cons_of_mem _ List.mem_cons_self | exact List.mem_cons_of_mem _ (List.mem_cons_of_mem _ List.mem_cons_self))))) ?_) (fun _ => ?_) (fun h => nomatch h)
      · rfl
      refine q_asgX (ev_call (ea_cons (ev_var rfl) (ea_cons (ev_var rfl) (ea_cons (ev_var rfl) ea_nil))) ⟨c, cs, hc, hl, ok, rfl, rfl⟩) fun g hg => ?_
      obtain ⟨gnd, gsub, gall⟩ := hg
      have gl : g.length ≤ 1000 := Nat.le_trans (nd_len gnd gsub) hl
      refine w_seq (w_app (n := 0) (rs := []) (R := rCells g) rfl (ev_var rfl) (ev_var rfl) (by exact Nat.zero_le _) ?_)
      dsimp only
      refine w_for (ys := g) (F := rCell) (src_list (ev_var rfl)) (fun (j y : Nat) => y = j) (fun y => [(r, hL [rCells g]), (q, hSet (g.take y))]) (fun _ => [some (rCells cs), some (rBl false), some (rSet cs), some (rAt q), some (rAt r), some (rCell c), some (rCells g), none]) 0 rfl rfl ⟨rfl, rfl, rfl, rfl, rfl, rfl, rfl, True.intro⟩ (fun _ _ => gt_name) ?_ ?_
      · rintro gs j d y hd rfl
        refine w_dput (n := 1) (f' := fun _ => rBl true) rfl ev_c (ev_var rfl) (ev_var rfl) key_cell (by rw [List.length_map, List.length_take]; omega) (fun _ _ h => h) (fun _ _ _ _ _ h => h) ?_
        dsimp only
        refine n_inv (y + 1) rfl ?_ (by exact ⟨rfl, rfl, rfl, rfl, rfl, rfl, rfl, True.intro⟩)
        show [(r, hL [rCells g]), (q, hDT _ _)] = [(r, hL [rCells g]), (q, hSet _)]
        rw [hSet_add (nd_take gnd hd), take_snoc hd]
      · rintro y rfl
        dsimp only
        refine n_inv ([g], g) (Or.inr ⟨g, rfl, fun t ht => gall t (cn c t hc ht)⟩) ?_ (by exact ⟨rfl, rfl, rfl, rfl, rfl, True.intro⟩)
        rw [List.take_length]
        rfl
    · refine w_when (c := false) (et_to (et_B (ev_dnotin (ev_var rfl) (ev_var rfl) key_cell (fun _ => dat_hot (by first | exact List.mem_cons_self | exact List.mem_cons_of_mem _ List.mem_cons_self | exact List.mem_cons_of_mem _ (List.mem_cons_of_mem _ List.mem_cons_self))))) ?_) (fun h => nomatch h) (fun _ => ?_)
      · rw [ck_dec, decide_eq_true (hg c hc)]
        rfl
      dsimp only
      exact n_inv ([g], g) (Or.inr ⟨g, rfl, hg⟩) rfl (by exact ⟨rfl, rfl, rfl, rfl, rfl, True.intro⟩)
  · rintro x hx
    rcases hx with ⟨h0, _⟩ | ⟨g, rfl, hg⟩
    · exact absurd (List.length_eq_zero_iff.mp (hp.length_eq.symm.trans h0)) ne
    dsimp only
    refine n_cool 0 4 rfl rfl ?_
    exact w_ret (R := rEx (fun _ : List Cell => True) (fun g => rL [rCells g])) ((ev_var rfl).up fun v M h => ⟨g, True.intro, h⟩) k
def CT_pieces : Option Addr → List Rep → Rep → Prop := fun _ rs R => ∃ cs : List Cell, cs.Nodup ∧ cs ≠ [] ∧ Conn (· ∈ cs) ∧ (∀ c ∈ cs, okC c = true) ∧ cs.length ≤ 1000 ∧ rs = [rCells cs] ∧ R = rEx (fun _ : List Cell => True) (fun g => rL [rCells g])
theorem len_pieces : ∀ b rs R, CT_pieces b rs R → rs.length = 1 := fun _ _ _ ⟨_, _, _, _, _, _, e, _⟩ => by rw [e]; rfl
theorem sc_pieces : FnScope ["cells"] ["cells"] K9H.d_pieces.scope := ⟨rfl, rfl, rfl, by decide +kernel, rfl, by decide +kernel, by decide +kernel⟩
theorem c_pieces (X : K.In hp) (G : hp.Ns mainGlobals mg) (c : K9H.Sy K) : Cal P w K mg base 7 "pieces" (SpD CT_pieces) [] := by
  obtain ⟨fd, F⟩ := c.def_ 9 (d := K9H.d_pieces) rfl
  have F : FunD K K9H.d_pieces.name K9H.d_pieces.qual K9H.d_pieces.params K9H.d_pieces.body K9H.d_pieces.scope [] [] _ fd := F
  have T := txt X G c
  have C_check_cells := c_check_cells (P := P) (w := w) (base := base) X G c
  have C_groups := c_groups (P := P) (w := w) (base := base) X G c
  have sc := sc_pieces
  refine calD F (He.glo_ok X G (c.fact 9 (f := .glo "pieces") rfl)) (bindsD F fun _ _ _ _ _ _ us hl => match us, hl with | [_], _ => rfl) (fnD (ps := ["cells"]) F sc CT_pieces ?_ ?_)
  case refine_1 => exact len_pieces
  refine fun cdv A outer s H E hr => ⟨_, (pss_cons (ps_expr (pe_c C_check_cells hr (by decide) (by rfl) (pa_cons (pv 0) pa_nil)))
  (pss_one (ps_ret (pe_c C_groups hr (by decide) (by rfl) (pa_cons (pv 0) (pa_cons pe_bl pa_nil)))))), fun B Q rs R hC hgs k => ?_⟩
  obtain ⟨cs, nd, ne, cn, ok, hl, rfl, rfl⟩ := hC
  refine q_drop (ev_call (ea_cons (ev_var rfl) ea_nil) ⟨cs, nd, ok, hl, rfl, rfl⟩) ?_
  exact w_ret (ev_call (ea_cons (ev_var rfl) (ea_cons ev_c ea_nil)) ⟨cs, nd, ne, cn, ok, hl, rfl, rfl⟩) k
def CT_hangs_together : Option Addr → List Rep → Rep → Prop := fun _ rs R => ∃ cs : List Cell, cs.Nodup ∧ cs ≠ [] ∧ Conn (· ∈ cs) ∧ (∀ c ∈ cs, okC c = true) ∧ cs.length ≤ 1000 ∧ rs = [rCells cs] ∧ R = rBl true
theorem len_hangs_together : ∀ b rs R, CT_hangs_together b rs R → rs.length = 1 := fun _ _ _ ⟨_, _, _, _, _, _, e, _⟩ => by rw [e]; rfl
theorem sc_hangs_together : FnScope ["cells"] ["cells"] K9H.d_hangs_together.scope := ⟨rfl, rfl, rfl, by decide +kernel, rfl, by decide +kernel, by decide +kernel⟩
theorem c_hangs_together (X : K.In hp) (G : hp.Ns mainGlobals mg) (c : K9H.Sy K) : Cal P w K mg base 8 "hangs_together" (SpD CT_hangs_together) [] := by
  obtain ⟨fd, F⟩ := c.def_ 8 (d := K9H.d_hangs_together) rfl
  have F : FunD K K9H.d_hangs_together.name K9H.d_hangs_together.qual K9H.d_hangs_together.params K9H.d_hangs_together.body K9H.d_hangs_together.scope [] [] _ fd := F
  have T := txt X G c
  have C_pieces := c_pieces (P := P) (w := w) (base := base) X G c
  have sc := sc_hangs_together
  refine calD F (He.glo_ok X G (c.fact 8 (f := .glo "hangs_together") rfl)) (bindsD F fun _ _ _ _ _ _ us hl => match us, hl with | [_], _ => rfl) (fnD (ps := ["cells"]) F sc CT_hangs_together ?_ ?_)
  case refine_1 => exact len_hangs_together
  refine fun cdv A outer s H E hr => ⟨_, (pss_one (ps_ret (pe_cmpR op_eq (pe_callB (id := "len") (call_lenK (K := K) rfl) (by rfl) T.z_len (by decide +kernel) (pa_cons (pe_c C_pieces hr (by decide) (by rfl) (pa_cons (pv 0) pa_nil)) pa_nil)) pe_int (nomark _)))), fun B Q rs R hC hgs k => ?_⟩
  obtain ⟨cs, nd, ne, cn, ok, hl, rfl, rfl⟩ := hC
  exact w_ret (R := rBl true) (ev_opV (ev_cb (R := rInt 1) (ea_cons (ev_call (ea_cons (ev_var rfl) ea_nil) ⟨cs, nd, ne, cn, ok, hl, rfl, rfl⟩) ea_nil) (rc_ex fun g _ => rc_lenL)) ev_c (rv_eq rfl)) k
def CT_side_count : Option Addr → List Rep → Rep → Prop := fun _ rs R => ∃ cs : List Cell, cs.Nodup ∧ (∀ c ∈ cs, okC c = true) ∧ cs.length ≤ 1000 ∧ rs = [rCells cs] ∧ R = rInt (sideCount cs)
theorem len_side_count : ∀ b rs R, CT_side_count b rs R → rs.length = 1 := fun _ _ _ ⟨_, _, _, _, e, _⟩ => by rw [e]; rfl
theorem sc_side_count : FnScope ["cells", "known", "cell", "place"] ["cells"] K9H.d_side_count.scope := ⟨rfl, rfl, rfl, by decide +kernel, rfl, by decide +kernel, by decide +kernel⟩
theorem c_side_count (X : K.In hp) (G : hp.Ns mainGlobals mg) (c : K9H.Sy K) : Cal P w K mg base 5 "side_count" (SpD CT_side_count) [] := by
  obtain ⟨fd, F⟩ := c.def_ 10 (d := K9H.d_side_count) rfl
  have F : FunD K K9H.d_side_count.name K9H.d_side_count.qual K9H.d_side_count.params K9H.d_side_count.body K9H.d_side_count.scope [] [] _ fd := F
  have T := txt X G c
  have C_check_cells := c_check_cells (P := P) (w := w) (base := base) X G c
  have C_beside := c_beside (P := P) (w := w) (base := base) X G c
  have sc := sc_side_count
  refine calD F (He.glo_ok X G (c.fact 10 (f := .glo "side_count") rfl)) (bindsD F fun _ _ _ _ _ _ us hl => match us, hl with | [_], _ => rfl) (fnD (ps := ["cells"]) F sc CT_side_count ?_ ?_)
  case refine_1 => exact len_side_count
  refine fun cdv A outer s H E hr => ⟨_, (pss_cons (ps_expr (pe_c C_check_cells hr (by decide) (by rfl) (pa_cons (pv 0) pa_nil)))
  (pss_cons (ps_asg (pe_dcT (hu_of hr) (own := [("cell", 2)]) rfl sc.nd (pi_listK (K := K) rfl (pv 0)) (blkOk_by (by kernel_rfl)) (fun _ _ _ _ _ => (pg_name (i := 2) sc.nd rfl (by first | exact Or.inl rfl | exact Or.inr rfl))) (fun _ _ _ _ _ => pts_nil) (fun _ _ _ _ _ => (pv 2)) (fun _ _ _ _ _ => pe_bl)) (pg_name (i := 1) sc.nd rfl (by first | exact Or.inl rfl | exact Or.inr rfl)))
  (pss_one (ps_ret (pe_callB (id := "sum") (cr_sumK (K := K) rfl rfl) (by rfl) T.z_sum (by decide +kernel) (pa_cons (pe_lc (own := [("cell", 2)]) rfl sc.nd (pi_listK (K := K) rfl (pv 0)) (blkOk_by (by kernel_rfl)) (fun _ _ _ _ _ => (pg_name (i := 2) sc.nd rfl (by first | exact Or.inl rfl | exact Or.inr rfl))) (fun _ _ _ _ _ => pts_nil) (fun _ _ _ _ _ => (pe_op op_sub pe_int (pe_callB (id := "len") (call_lenK (K := K) rfl) (by rfl) T.z_len (by decide +kernel) (pa_cons (pe_lc (own := [("place", 3)]) rfl sc.nd (pi_listK (K := K) rfl (pe_c C_beside hr (by decide) (by rfl) (pa_cons (pv 2) pa_nil))) (blkOk_by (by kernel_rfl)) (fun _ _ _ _ _ => (pg_name (i := 3) sc.nd rfl (by first | exact Or.inl rfl | exact Or.inr rfl))) (fun _ _ _ _ _ => (pts_one (pt_cmp (pc_din (hu_of hr) (pv 3) (pv 1))))) (fun _ _ _ _ _ => (pv 3))) pa_nil))))) pa_nil)))))), fun B Q rs R hC hgs k => ?_⟩
  obtain ⟨cs, nd, ok, hl, rfl, rfl⟩ := hC
  refine q_drop (ev_call (ea_cons (ev_var rfl) ea_nil) ⟨cs, nd, ok, hl, rfl, rfl⟩) (q_asg (R := rSet cs) (en_known nd hl (src_list (ev_var rfl)) (fun _ => rfl)).ev ?_)
  refine w_ret (R := rInt (sideCount cs)) (ev_cb (ea_cons (ev_to (en_lcA cs (fun c => rInt ((4 : Int) - (((bes c).filter fun p => decide (p ∈ cs)).length : Nat))) (src_list (ev_var rfl)) (fun _ _ => gt_name) (fun _ h => h) (by omega) (fun c hc => ?_)).ev ?_) ea_nil) (rc_sum (ns := cs.map fun c => (4 : Int) - (((bes c).filter fun p => decide (p ∈ cs)).length : Nat)))) k
  · refine ev_to (ev_opV ev_c (ev_lenL (R := rCells ((bes c).filter fun p => decide (p ∈ cs))) (rs := ((bes c).filter fun p => decide (p ∈ cs)).map rCell) (en_lc (bes c) (fun p => decide (p ∈ cs)) rCell (src_list (ev_call (ea_cons (ev_var rfl) ea_nil) ⟨_, rfl, rfl⟩)) (fun _ _ => gt_name) (fun _ h => h) (Nat.le_trans (bes_len c) (by decide)) (fun p _ => et_to (et_B (ev_din (ev_var rfl) (ev_var rfl) key_cell (fun _ => dat_data))) ?_) (fun p _ _ => ev_var rfl)).ev lat_data) rv_I0) ?_
    · exact ck_dec
    · rw [List.length_map]
  · rw [List.map_map]
    rfl

end
end K9W
end
section
set_option Elab.async false
set_option linter.all false
set_option maxRecDepth 100000
set_option maxHeartbeats 4000000
namespace K9W
open PySem PySem.Spec PyProof.Rows L2 L2.K9R L2.K9A K9 K9M
open C8 (Cal Met pe_c pe_mt pe_mt0 InsC call_isC pe_gc)
section
variable {P : Program} {w : World} {K : PySem.W.Frag} {hp : Heap} {mg : Str → Option Value} {base : Heap}

/-- the law's own walk from a cell -/
def CT_L_law_reach : Option Addr → List Rep → Rep → Prop := fun _ rs R => ∃ (s : Cell) (ks : List Cell), s ∈ ks ∧ ks.length ≤ 1000 ∧ rs = [rSet ks, rCell s, rCells fourD] ∧
  R = rEx (fun xs : List Cell => s ∈ xs ∧ xs.Nodup ∧ ∀ x ∈ xs, Reach (· ∈ ks) s x) rCells
theorem len_L_law_reach : ∀ b rs R, CT_L_law_reach b rs R → rs.length = 3 := fun _ _ _ ⟨_, _, _, _, e, _⟩ => by rw [e]; rfl
theorem mem_range {n i : Nat} {y : Nat} (h : (List.range n)[i]? = some y) : y = i ∧ i < n := by
  obtain ⟨hl, e⟩ := List.getElem?_eq_some_iff.mp h
  rw [List.length_range] at hl
  exact ⟨by simpa using e.symm, hl⟩
theorem nd_snoc {α : Type} {xs : List α} {x : α} (nd : xs.Nodup) (h : x ∉ xs) : (xs ++ [x]).Nodup := by
  rw [List.nodup_append]
  refine ⟨nd, List.nodup_cons.mpr ⟨fun q => (nomatch q), List.nodup_nil⟩, fun a ha b hb => ?_⟩
  rw [List.mem_singleton] at hb
  subst hb
  exact fun e => h (e ▸ ha)
theorem sc_L_law_reach : FnScope ["_law_pool", "_law_start", "_law_steps", "_law_seen", "_law_line", "_law_k", "_law_row", "_law_column", "_law_a", "_law_b", "_law_near"] ["_law_pool", "_law_start", "_law_steps"] K9H.d_L_law_reach.scope := ⟨rfl, rfl, rfl, by decide +kernel, rfl, by decide +kernel, by decide +kernel⟩
theorem c_L_law_reach (X : K.In hp) (G : hp.Ns mainGlobals mg) (c : K9H.Sy K) : Cal P w K mg base 1 "_law_reach" (SpD CT_L_law_reach) [] := by
  obtain ⟨fd, F⟩ := c.def_ 41 (d := K9H.d_L_law_reach) rfl
  have F : FunD K K9H.d_L_law_reach.name K9H.d_L_law_reach.qual K9H.d_L_law_reach.params K9H.d_L_law_reach.body K9H.d_L_law_reach.scope [] [] _ fd := F
  have T := txt X G c
  have sc := sc_L_law_reach
  refine calD F (He.glo_ok X G (c.fact 29 (f := .glo "_law_reach") rfl)) (bindsD F fun _ _ _ _ _ _ us hl => match us, hl with | [_, _, _], _ => rfl) (fnD (ps := ["_law_pool", "_law_start", "_law_steps"]) F sc CT_L_law_reach ?_ ?_)
  case refine_1 => exact len_L_law_reach
  refine fun cdv A outer s H E hr => ⟨_, (pss_cons (ps_par (i := 3) (j := 4) rfl sc.nd rfl rfl (by decide) rfl rfl (pa_cons (pe_dispT (hu_of hr) (pv 1) pe_bl) (pa_cons (pe_lst (pa_cons (pv 1) pa_nil)) pa_nil)) (by rfl))
  (pss_cons (ps_for PassesOwn.never rfl (pi_range1 (by rfl) T.z_range (pa_cons (pe_callB (id := "len") call_len_dT (by rfl) T.z_len (by decide +kernel) (pa_cons (pv 0) pa_nil)) pa_nil)) (pg_name (i := 5) sc.nd rfl (by first | exact Or.inl rfl | exact Or.inr rfl))
  (pss_cons (ps_if (pt_cmpR op_eq (pv 5) (pe_callB (id := "len") (call_lenK (K := K) rfl) (by rfl) T.z_len (by decide +kernel) (pa_cons (pv 4) pa_nil)) (nomark _))
  (pss_one ps_break)
  pss_nil)
  (pss_cons (ps_asg (pe_ix (ix_listK (K := K) rfl) (pv 4) (pv 5) (fun _ _ => rfl)) (pg_tupK (K := K) (n := 2) rfl rfl (pgs_cons (pg_name (i := 6) sc.nd rfl (by first | exact Or.inl rfl | exact Or.inr rfl)) (pgs_cons (pg_name (i := 7) sc.nd rfl (by first | exact Or.inl rfl | exact Or.inr rfl)) pgs_nil))))
  (pss_one (ps_for PassesOwn.never rfl (pi_listK (K := K) rfl (pv 2)) (pg_tupK (K := K) (n := 2) rfl rfl (pgs_cons (pg_name (i := 8) sc.nd rfl (by first | exact Or.inl rfl | exact Or.inr rfl)) (pgs_cons (pg_name (i := 9) sc.nd rfl (by first | exact Or.inl rfl | exact Or.inr rfl)) pgs_nil)))
  (pss_cons (ps_set (i := 10) sc.nd rfl (by first | exact Or.inl rfl | exact Or.inr rfl) (pe_tup (pa_cons (pe_op op_add (pv 6) (pv 8)) (pa_cons (pe_op op_add (pv 7) (pv 9)) pa_nil))))
  (pss_one (ps_if (PW.pt (pw_and (pt_cmp (pc_din (hu_of hr) (pv 10) (pv 0))) (pw_and1 (pt_cmp (pc_dnotin (hu_of hr) (pv 10) (pv 3))))))
  (pss_cons (ps_dput (hu_of hr) (pv 3) (pv 10) pe_bl rfl)
  (pss_one (ps_expr (pe_bm PySem.F.plainAttrs_list PySem.F.slot_list_append PySem.F.type_list_append mt_append (pv 4) (pa_cons (pv 10) pa_nil)))))
  pss_nil))))))))
  (pss_one (ps_ret (pe_callB (id := "sorted") cr_sortedPO (by rfl) T.z_sorted (by decide +kernel) (pa_cons (pv 4) pa_nil)))))), fun B Q rs R hC hgs k => ?_⟩
  obtain ⟨s, ks, hs, hl, rfl, rfl⟩ := hC
  refine w_seq ?_
  refine w_par2 (h1 := hSet [s]) (h2 := hL [rCell s]) (en_dispT (ev_var rfl) ev_c key_cell (fun _ _ h => h)) (fun p => en_lst (ea_cons (ev_var rfl) ea_nil) (by exact Nat.le_of_ble_eq_true rfl)) fun p q => ?_
  dsimp only
  have fin : ∀ x : List Cell, (s ∈ x ∧ x.Nodup ∧ ∀ c ∈ x, Reach (· ∈ ks) s c) → N B [(q, hL (x.map rCell)), (p, hSet x)] [some (rSet ks), some (rCell s), some (rCells fourD), some (rAt p), some (rAt q), none, none, none, none, none, none] (tRet (tCB (rSortedPO K) (tCons (tVar 4) tNil)) { nx := fun _ H' => Q .non H', rt := Q }) := fun x hx => by
    refine w_ret (R := rEx (fun xs : List Cell => s ∈ xs ∧ xs.Nodup ∧ ∀ c ∈ xs, Reach (· ∈ ks) s c) rCells) (EV.up (en_sortedC (R := rAt q) (cs := x) (ev_var rfl) (lat_hot List.mem_cons_self)).evX ?_) k
    rintro v M ⟨xs, ⟨hp, _⟩, hv⟩
    exact ⟨xs, ⟨hp.mem_iff.mpr hx.1, hp.nodup_iff.mpr hx.2.1, fun c hc => hx.2.2 c (hp.mem_iff.mp hc)⟩, hv⟩
  refine q_for (src_range (n := (ks.length : Int)) (ea_cons (ev_to (ev_lenDT (ev_var rfl) (fun _ => dat_data)) (by rw [List.length_map])) ea_nil) (by omega) (by omega)) (fun (i : Nat) (x : List Cell) => i ≤ x.length ∧ s ∈ x ∧ x.Nodup ∧ ∀ c ∈ x, Reach (· ∈ ks) s c) (fun x => [(q, hL (x.map rCell)), (p, hSet x)]) (fun _ => [some (rSet ks), some (rCell s), some (rCells fourD), some (rAt p), some (rAt q), none, none, none, none, none, none]) [s] ⟨Nat.zero_le _, List.mem_singleton.mpr rfl, List.nodup_cons.mpr ⟨fun h => (nomatch h), List.nodup_nil⟩, fun c hc => by rw [List.mem_singleton.mp hc]; exact .refl hs⟩ rfl ⟨rfl, rfl, rfl, rfl, rfl, True.intro⟩ (fun _ _ => gt_name) ?_ ?_
  · rintro gs i y x hy ⟨hi, hx⟩
    obtain ⟨rfl, hlt⟩ := mem_range hy
    obtain ⟨hsx, nd, hr⟩ := hx
    refine q_when (c := decide ((y : Int) = ((x.length : Nat) : Int))) (et_to (et_test (ev_opV (ev_var rfl) (ev_lenL (ev_var rfl) (lat_hot List.mem_cons_self)) (rv_eq rfl))) ?_) (fun _ => ?_) (fun hne => ?_)
    · rw [List.length_map, decide_eq_decide]
      exact ⟨fun z => by injection z, fun z => by rw [z]⟩
    · refine w_brk ?_
      dsimp only
      refine n_drop ?_
      rw [Bs.nogs hgs]
      exact n_less (by exact ⟨rfl, rfl, rfl, rfl, rfl, True.intro⟩) (fin x ⟨hsx, nd, hr⟩)
    · have hyl : y < x.length := by
        have := of_decide_eq_false hne
        omega
      have hc : x[y]? = some x[y] := List.getElem?_eq_getElem hyl
      have hcm := hr _ (List.getElem_mem hyl)
      generalize x[y] = c at hc hcm
      refine q_asgG (ev_opV (R := rCell c) (ev_var rfl) (ev_var rfl) (rv_ixL (lat_hot List.mem_cons_self) (by omega) (by rw [List.getElem?_map]; show Option.map rCell x[y]? = _; rw [hc]; rfl))) (gt_tup2 gt_name gt_name) ?_
      refine w_for (ys := fourD) (F := rCell) (src_list (ev_var rfl)) (fun (i : Nat) (z : List Cell) => x.length ≤ z.length ∧ s ∈ z ∧ z.Nodup ∧ ∀ c ∈ z, Reach (· ∈ ks) s c) (fun x => [(q, hL (x.map rCell)), (p, hSet x)]) (fun _ => [some (rSet ks), some (rCell s), some (rCells fourD), some (rAt p), some (rAt q), none, some (rInt c.1), some (rInt c.2), none, none, none]) x ⟨Nat.le_refl _, hsx, nd, hr⟩ rfl ⟨rfl, rfl, rfl, rfl, rfl, rfl, rfl, True.intro⟩ (fun d _ => gt_tup2 gt_name gt_name) ?_ ?_
      · rintro gs' j d z hd ⟨hz, hsz, ndz, hrz⟩
        have hzl : z.length ≤ ks.length := nd_len ndz fun u hu => (hrz u hu).tgt
        refine q_asg (R := rCell (c.1 + d.1, c.2 + d.2)) (ev_tup (ea_cons (ev_opV (ev_var rfl) (ev_var rfl) rv_I0) (ea_cons (ev_opV (ev_var rfl) (ev_var rfl) rv_I0) ea_nil))) ?_
        refine w_when (c := decide ((c.1 + d.1, c.2 + d.2) ∈ ks) && !decide ((c.1 + d.1, c.2 + d.2) ∈ z)) (et_to (et_and (et_B (ev_din (ev_var rfl) (ev_var rfl) (key_cell (c := (c.1 + d.1, c.2 + d.2))) (fun _ => dat_data))) fun _ => et_B (ev_dnotin (ev_var rfl) (ev_var rfl) (key_cell (c := (c.1 + d.1, c.2 + d.2))) (fun _ => dat_hot (List.mem_cons_of_mem _ List.mem_cons_self)))) ?_) (fun hc2 => ?_) (fun _ => ?_)
        · rw [ck_dec, ck_dec]
        · rw [Bool.and_eq_true] at hc2
          have hk : (c.1 + d.1, c.2 + d.2) ∈ ks := of_decide_eq_true hc2.1
          have hn : (c.1 + d.1, c.2 + d.2) ∉ z := by simpa using hc2.2
          have hnear : (c.1 + d.1, c.2 + d.2) ∈ four c := near_iff.mp (List.mem_map.mpr ⟨d, List.mem_of_getElem? hd, rfl⟩)
          refine w_seq (w_dput (n := 1) (f' := fun _ => rBl true) rfl ev_c (ev_var rfl) (ev_var rfl) (key_cell (c := (c.1 + d.1, c.2 + d.2))) (by rw [List.length_map]; omega) (fun _ _ h => h) (fun _ _ _ _ _ h => h) ?_)
          dsimp only
          refine w_app (n := 0) (rs := z.map rCell) (R := rCell (c.1 + d.1, c.2 + d.2)) rfl (ev_var rfl) (ev_var rfl) (by rw [List.length_map]; omega) ?_
          dsimp only
          refine n_inv (z ++ [(c.1 + d.1, c.2 + d.2)]) ⟨by rw [List.length_append]; omega, List.mem_append_left _ hsz, nd_snoc ndz hn, fun u hu => ?_⟩ ?_ (by exact ⟨rfl, rfl, rfl, rfl, rfl, rfl, rfl, True.intro⟩)
          · rcases List.mem_append.mp hu with hu | hu
            · exact hrz u hu
            · rw [List.mem_singleton.mp hu]
              exact .step hcm hnear hk
          · show [(q, hL (z.map rCell ++ [rCell _])), (p, hDT _ _)] = [(q, hL ((z ++ [_]).map rCell)), (p, hSet (z ++ [_]))]
            rw [hSet_add hn, List.map_append]
            rfl
        · dsimp only
          exact n_inv z ⟨hz, hsz, ndz, hrz⟩ rfl (by exact ⟨rfl, rfl, rfl, rfl, rfl, rfl, rfl, True.intro⟩)
      · rintro z ⟨hz, hsz, ndz, hrz⟩
        dsimp only
        exact n_inv z ⟨by omega, hsz, ndz, hrz⟩ rfl (by exact ⟨rfl, rfl, rfl, rfl, rfl, True.intro⟩)
  · rintro x ⟨_, hx⟩
    exact fin x hx

end
end K9W
end
section
set_option Elab.async false
set_option linter.all false
set_option maxRecDepth 100000
set_option maxHeartbeats 4000000
namespace K9W
open PySem PySem.Spec PyProof.Rows L2 L2.K9R L2.K9A K9 K9M
open C8 (Cal Met pe_c pe_mt pe_mt0 InsC call_isC pe_gc)
section
variable {P : Program} {w : World} {K : PySem.W.Frag} {hp : Heap} {mg : Str → Option Value} {base : Heap}

def CT_L_law_groups : Option Addr → List Rep → Rep → Prop := fun _ rs R => ∃ cs : List Cell, cs.Nodup ∧ cs.length ≤ 1000 ∧ rs = [rCells cs, rCells fourD] ∧
  R = rEx (fun g : List (List Cell) => (g = [] → cs = []) ∧ (cs = [] → g = []) ∧ (g.length ≤ 1 → Conn (· ∈ cs))) (fun g => rL (g.map rCells))
theorem len_L_law_groups : ∀ b rs R, CT_L_law_groups b rs R → rs.length = 2 := fun _ _ _ ⟨_, _, _, e, _⟩ => by rw [e]; rfl
structure Grp (cs ds : List Cell) (i : Nat) (x : List (List Cell) × List Cell) : Prop where
  nd : x.2.Nodup
  sub : ∀ c ∈ x.2, c ∈ cs
  cov : ∀ c ∈ ds.take i, c ∈ x.2
  lot : ∀ c ∈ x.2, ∃ g ∈ x.1, c ∈ g
  src : ∀ g ∈ x.1, ∃ s, ∀ c ∈ g, Reach (· ∈ cs) s c
  few : x.1.length ≤ i
  zero : x.1 = [] → i = 0
theorem Grp.fin {cs ds : List Cell} {x : List (List Cell) × List Cell} (h : Grp cs ds ds.length x) (hp : ds.Perm cs) : (x.1 = [] → cs = []) ∧ (cs = [] → x.1 = []) ∧ (x.1.length ≤ 1 → Conn (· ∈ cs)) := by
  refine ⟨fun e => ?_, fun e => ?_, fun hl s t hs ht => ?_⟩
  · have := h.zero e
    exact List.length_eq_zero_iff.mp (hp.length_eq.symm.trans this)
  · have h0 : ds.length = 0 := by rw [hp.length_eq, e]; rfl
    exact List.length_eq_zero_iff.mp (Nat.le_zero.mp (h0 ▸ h.few))
  · have all : ∀ c ∈ cs, c ∈ x.2 := fun c hc => h.cov c (by rw [List.take_length]; exact hp.mem_iff.mpr hc)
    obtain ⟨g, hg, hsg⟩ := h.lot s (all s hs)
    obtain ⟨g', hg', htg⟩ := h.lot t (all t ht)
    have e : g = g' := by
      obtain ⟨a, ea⟩ : ∃ a, x.1 = [a] := by
        cases hx : x.1 with
        | nil => rw [hx] at hg; cases hg
        | cons a l =>
          cases l with
          | nil => exact ⟨a, rfl⟩
          | cons b l => rw [hx] at hl; simp at hl
      rw [ea] at hg hg'
      rw [List.mem_singleton.mp hg, List.mem_singleton.mp hg']
    subst e
    obtain ⟨s0, hs0⟩ := h.src g hg
    exact (hs0 s hsg).symm.trans (hs0 t htg)
theorem sc_L_law_groups : FnScope ["_law_cells", "_law_steps", "_law_pool", "_law_done", "_law_found", "_law_cell", "_law_lot", "_law_one"] ["_law_cells", "_law_steps"] K9H.d_L_law_groups.scope := ⟨rfl, rfl, rfl, by decide +kernel, rfl, by decide +kernel, by decide +kernel⟩
theorem c_L_law_groups (X : K.In hp) (G : hp.Ns mainGlobals mg) (c : K9H.Sy K) : Cal P w K mg base 2 "_law_groups" (SpD CT_L_law_groups) [] := by
  obtain ⟨fd, F⟩ := c.def_ 42 (d := K9H.d_L_law_groups) rfl
  have F : FunD K K9H.d_L_law_groups.name K9H.d_L_law_groups.qual K9H.d_L_law_groups.params K9H.d_L_law_groups.body K9H.d_L_law_groups.scope [] [] _ fd := F
  have T := txt X G c
  have C_L_law_reach := c_L_law_reach (P := P) (w := w) (base := base) X G c
  have sc := sc_L_law_groups
  refine calD F (He.glo_ok X G (c.fact 30 (f := .glo "_law_groups") rfl)) (bindsD F fun _ _ _ _ _ _ us hl => match us, hl with | [_, _], _ => rfl) (fnD (ps := ["_law_cells", "_law_steps"]) F sc CT_L_law_groups ?_ ?_)
  case refine_1 => exact len_L_law_groups
  refine fun cdv A outer s H E hr => ⟨_, (pss_cons (ps_par3 (i := 2) (j := 3) (l := 4) rfl sc.nd rfl rfl rfl (by decide) (by decide) (by decide) rfl rfl rfl (pa_cons (pe_callTy (T := "dict") (cr_dictT (hu64_of hr) rfl) (by rfl) T.z_dict (by decide +kernel) (pa_cons (pe_lc (own := [("_law_cell", 5)]) rfl sc.nd (pi_listK (K := K) rfl (pv 0)) (blkOk_by (by kernel_rfl)) (fun _ _ _ _ _ => (pg_name (i := 5) sc.nd rfl (by first | exact Or.inl rfl | exact Or.inr rfl))) (fun _ _ _ _ _ => pts_nil) (fun _ _ _ _ _ => (pe_tup (pa_cons (pv 5) (pa_cons pe_bl pa_nil))))) pa_nil)) (pa_cons pe_dnewT (pa_cons (pe_lst pa_nil) pa_nil))) (by rfl))
  (pss_cons (ps_for PassesOwn.never rfl (pi_listK (K := K) rfl (pe_callB (id := "sorted") cr_sortedPO (by rfl) T.z_sorted (by decide +kernel) (pa_cons (pv 0) pa_nil))) (pg_name (i := 5) sc.nd rfl (by first | exact Or.inl rfl | exact Or.inr rfl))
  (pss_one (ps_if (pt_cmp (pc_dnotin (hu_of hr) (pv 5) (pv 3)))
  (pss_cons (ps_set (i := 6) sc.nd rfl (by first | exact Or.inl rfl | exact Or.inr rfl) (pe_c C_L_law_reach hr (by decide) (by rfl) (pa_cons (pv 2) (pa_cons (pv 5) (pa_cons (pv 1) pa_nil)))))
  (pss_cons (ps_for PassesOwn.never rfl (pi_listK (K := K) rfl (pv 6)) (pg_name (i := 7) sc.nd rfl (by first | exact Or.inl rfl | exact Or.inr rfl))
  (pss_one (ps_dput (hu_of hr) (pv 3) (pv 7) pe_bl rfl)))
  (pss_one (ps_expr (pe_bm PySem.F.plainAttrs_list PySem.F.slot_list_append PySem.F.type_list_append mt_append (pv 4) (pa_cons (pv 6) pa_nil))))))
  pss_nil)))
  (pss_one (ps_ret (pv 4))))), fun B Q rs R hC hgs k => ?_⟩
  obtain ⟨cs, nd, hl, rfl, rfl⟩ := hC
  refine w_seq ?_
  refine w_par3 (Ra := rSet cs) (h2 := hSet []) (h3 := hL []) (en_dictT (key := ck) (val := fun _ => rBl true) (xs := cs) (rk := rCell) (rv := fun _ => rBl true) (en_lcA cs (fun c => rT [rCell c, rBl true]) (src_list (ev_var rfl)) (fun _ _ => gt_name) (fun _ h => h) (by omega) (fun c hc => ev_tup (ea_cons (ev_var rfl) (ea_cons ev_c ea_nil)))).ev (fun _ _ => key_cell) (fun _ _ _ _ h => h) (nd_ck nd) (by omega)).ev en_dT' (fun q => en_lst ea_nil (by exact Nat.zero_le _)) fun q r => ?_
  dsimp only
  refine q_forX (src_listX (EN.evX (en_sortedC (R := rCells cs) (ev_var rfl) lat_data))) fun ds hds wi' src => ?_
  obtain ⟨hp, _⟩ := hds
  refine w_for1 src (fun (i : Nat) (x : List (List Cell) × List Cell) => Grp cs ds i x) (fun x => [(r, hL (x.1.map rCells)), (q, hSet x.2)]) (fun _ => [some (rCells cs), some (rCells fourD), some (rSet cs), some (rAt q), some (rAt r), none, none, none]) ([], []) ⟨List.nodup_nil, fun c h => (by cases h), fun c h => (by cases h), fun c h => (by cases h), fun g h => (by cases h), Nat.le_refl _, fun _ => rfl⟩ rfl ⟨rfl, rfl, rfl, rfl, rfl, True.intro⟩ (fun _ _ => gt_name) ?_ ?_
  · rintro gs i c ⟨fo, dn⟩ hy gr
    have hc : c ∈ cs := hp.mem_iff.mp (List.mem_of_getElem? hy)
    have hdl : ds.length = cs.length := hp.length_eq
    have hil : i < ds.length := (List.getElem?_eq_some_iff.mp hy).1
    have hfew : fo.length ≤ i := gr.few
    refine w_when (c := !decide (c ∈ dn)) (et_to (et_B (ev_dnotin (ev_var rfl) (ev_var rfl) key_cell (fun _ => dat_hot (by first | exact List.mem_cons_self | exact List.mem_cons_of_mem _ List.mem_cons_self | exact List.mem_cons_of_mem _ (List.mem_cons_of_mem _ List.mem_cons_self))))) ?_) (fun hn => ?_) (fun hn => ?_)
    · rw [ck_dec]
    · refine q_asgX (ev_call (ea_cons (ev_var rfl) (ea_cons (ev_var rfl) (ea_cons (ev_var rfl) ea_nil))) ⟨c, cs, hc, hl, rfl, rfl⟩) fun g hg => ?_
      obtain ⟨hcg, gnd, gr2⟩ := hg
      refine q_for (ys := g) (F := rCell) (src_list (ev_var rfl)) (fun (j : Nat) (y : List Cell) => y.Nodup ∧ (∀ c ∈ y, c ∈ dn ∨ c ∈ g) ∧ (∀ c ∈ dn, c ∈ y) ∧ ∀ c ∈ g.take j, c ∈ y) (fun y => [(r, hL (fo.map rCells)), (q, hSet y)]) (fun _ => [some (rCells cs), some (rCells fourD), some (rSet cs), some (rAt q), some (rAt r), some (rCell c), some (rCells g), none]) dn ⟨gr.nd, fun c h => Or.inl h, fun c h => h, fun c h => (by cases h)⟩ rfl ⟨rfl, rfl, rfl, rfl, rfl, rfl, rfl, True.intro⟩ (fun _ _ => gt_name) ?_ ?_
      · rintro gs' j d y hd ⟨ynd, ysub, ydn, yg⟩
        have hyl : y.length ≤ cs.length := nd_len ynd fun c hc => (ysub c hc).elim (gr.sub c) fun h => (gr2 c h).tgt
        refine w_dput (n := 1) (f' := fun _ => rBl true) rfl ev_c (ev_var rfl) (ev_var rfl) key_cell (by rw [List.length_map]; omega) (fun _ _ h => h) (fun _ _ _ _ _ h => h) ?_
        dsimp only
        by_cases hdy : d ∈ y
        · refine n_inv y ⟨ynd, ysub, ydn, fun c hc => ?_⟩ ?_ (by exact ⟨rfl, rfl, rfl, rfl, rfl, rfl, rfl, True.intro⟩)
          · rw [take_snoc hd] at hc
            rcases List.mem_append.mp hc with hc | hc
            · exact yg c hc
            · rw [List.mem_singleton.mp hc]
              exact hdy
          · show [(r, hL (fo.map rCells)), (q, hDT _ _)] = [(r, hL (fo.map rCells)), (q, hSet y)]
            rw [if_pos (ck_mem.mpr hdy)]
        · refine n_inv (y ++ [d]) ⟨nd_snoc ynd hdy, fun c hc => ?_, fun c hc => List.mem_append_left _ (ydn c hc), fun c hc => ?_⟩ ?_ (by exact ⟨rfl, rfl, rfl, rfl, rfl, rfl, rfl, True.intro⟩)
          · rcases List.mem_append.mp hc with hc | hc
            · exact ysub c hc
            · rw [List.mem_singleton.mp hc]
              exact Or.inr (List.mem_of_getElem? hd)
          · rw [take_snoc hd] at hc
            rcases List.mem_append.mp hc with hc | hc
            · exact List.mem_append_left _ (yg c hc)
            · exact List.mem_append_right _ hc
          · show [(r, hL (fo.map rCells)), (q, hDT _ _)] = [(r, hL (fo.map rCells)), (q, hSet _)]
            rw [hSet_add hdy]
      · rintro y ⟨ynd, ysub, ydn, yg⟩
        refine w_app (n := 0) (rs := fo.map rCells) (R := rCells g) rfl (ev_var rfl) (ev_var rfl) (by rw [List.length_map]; omega) ?_
        dsimp only
        refine n_inv (fo ++ [g], y) ⟨ynd, fun c hc => (ysub c hc).elim (gr.sub c) fun h => (gr2 c h).tgt, fun d hd => ?_, fun d hd => ?_, fun g' hg' => ?_, ?_, fun e => ?_⟩ ?_ (by exact ⟨rfl, rfl, rfl, rfl, rfl, True.intro⟩)
        · rw [take_snoc hy] at hd
          rcases List.mem_append.mp hd with hd | hd
          · exact ydn d (gr.cov d hd)
          · rw [List.mem_singleton.mp hd]
            exact yg c (by rw [List.take_length]; exact hcg)
        · rcases ysub d hd with h | h
          · obtain ⟨g', h1, h2⟩ := gr.lot d h
            exact ⟨g', List.mem_append_left _ h1, h2⟩
          · exact ⟨g, List.mem_append_right _ (List.mem_singleton.mpr rfl), h⟩
        · rcases List.mem_append.mp hg' with h | h
          · exact gr.src g' h
          · rw [List.mem_singleton.mp h]
            exact ⟨c, gr2⟩
        · show (fo ++ [g]).length ≤ i + 1
          rw [List.length_append]
          exact Nat.succ_le_succ hfew
        · exact absurd (List.append_eq_nil_iff.mp e).2 (fun z => nomatch z)
        · show [(r, hL (fo.map rCells ++ [rCells g])), (q, hSet y)] = [(r, hL ((fo ++ [g]).map rCells)), (q, hSet y)]
          rw [List.map_append]
          rfl
    · have hcd : c ∈ dn := by simpa using hn
      dsimp only
      refine n_inv (fo, dn) ⟨gr.nd, gr.sub, fun d hd => ?_, gr.lot, gr.src, Nat.le_succ_of_le gr.few, fun e => ?_⟩ rfl (by exact ⟨rfl, rfl, rfl, rfl, rfl, True.intro⟩)
      · rw [take_snoc hy] at hd
        rcases List.mem_append.mp hd with hd | hd
        · exact gr.cov d hd
        · rw [List.mem_singleton.mp hd]
          exact hcd
      · obtain ⟨g, hg, _⟩ := gr.lot c hcd
        rw [show fo = [] from e] at hg
        cases hg
  · rintro ⟨fo, dn⟩ gr
    dsimp only
    refine n_cool 0 4 rfl rfl ?_
    exact w_ret (R := rEx (fun g : List (List Cell) => (g = [] → cs = []) ∧ (cs = [] → g = []) ∧ (g.length ≤ 1 → Conn (· ∈ cs))) (fun g => rL (g.map rCells))) ((ev_var rfl).up fun v M h => ⟨fo, gr.fin hp, h⟩) k
def CT_L_law_hangs : Option Addr → List Rep → Rep → Prop := fun _ rs R => ∃ cs : List Cell, cs.Nodup ∧ cs.length ≤ 1000 ∧ rs = [rCells cs] ∧ R = rEx (fun c : Bool => c = true → cs ≠ []) rBl
theorem len_L_law_hangs : ∀ b rs R, CT_L_law_hangs b rs R → rs.length = 1 := fun _ _ _ ⟨_, _, _, e, _⟩ => by rw [e]; rfl
theorem sc_L_law_hangs : FnScope ["_law_cells"] ["_law_cells"] K9H.d_L_law_hangs.scope := ⟨rfl, rfl, rfl, by decide +kernel, rfl, by decide +kernel, by decide +kernel⟩
theorem c_L_law_hangs (X : K.In hp) (G : hp.Ns mainGlobals mg) (c : K9H.Sy K) : Cal P w K mg base 3 "_law_hangs" (SpD CT_L_law_hangs) [] := by
  obtain ⟨fd, F⟩ := c.def_ 55 (d := K9H.d_L_law_hangs) rfl
  have F : FunD K K9H.d_L_law_hangs.name K9H.d_L_law_hangs.qual K9H.d_L_law_hangs.params K9H.d_L_law_hangs.body K9H.d_L_law_hangs.scope [] [] _ fd := F
  have T := txt X G c
  have C_L_law_groups := c_L_law_groups (P := P) (w := w) (base := base) X G c
  have C_L_law_four := c_L_law_four (P := P) (w := w) (base := base) X G c
  have sc := sc_L_law_hangs
  refine calD F (He.glo_ok X G (c.fact 43 (f := .glo "_law_hangs") rfl)) (bindsD F fun _ _ _ _ _ _ us hl => match us, hl with | [_], _ => rfl) (fnD (ps := ["_law_cells"]) F sc CT_L_law_hangs ?_ ?_)
  case refine_1 => exact len_L_law_hangs
  refine fun cdv A outer s H E hr => ⟨_, (pss_one (ps_ret (pe_cmpR op_eq (pe_callB (id := "len") (call_lenK (K := K) rfl) (by rfl) T.z_len (by decide +kernel) (pa_cons (pe_c C_L_law_groups hr (by decide) (by rfl) (pa_cons (pv 0) (pa_cons (pe_c0 C_L_law_four hr (by decide) (by rfl)) pa_nil))) pa_nil)) pe_int (nomark _)))), fun B Q rs R hC hgs k => ?_⟩
  obtain ⟨cs, nd, hl, rfl, rfl⟩ := hC
  refine w_ret (R := rEx (fun c : Bool => c = true → cs ≠ []) rBl) (ev_opV (ev_cb (R := rEx (fun n : Int => n = 1 → cs ≠ []) rInt) (ea_cons (ev_call (ea_cons (ev_var rfl) (ea_cons (ev_call ea_nil ⟨rfl, rfl⟩) ea_nil)) ⟨cs, nd, hl, rfl, rfl⟩) ea_nil) (rc_ex fun g hg => ?_)) ev_c (rv_exL fun n hn => rv_up (rv_eq rfl) ?_)) k
  · refine fun S H vs k ho al Q q => rc_lenL S H vs k ho al Q fun v H' f r => q v H' f ⟨_, fun e h => ?_, r⟩
    rw [List.length_map, hg.2.1 h] at e
    exact absurd e (by decide)
  · exact fun v M h => ⟨_, fun e => hn (by
      have := of_decide_eq_true e
      injection this), h⟩

end
end K9W
end
section
set_option Elab.async false
set_option linter.all false
set_option maxRecDepth 100000
set_option maxHeartbeats 4000000
namespace K9W
open PySem PySem.Spec PyProof.Rows L2 L2.K9R L2.K9A K9 K9M
open C8 (Cal Met pe_c pe_mt pe_mt0 InsC call_isC pe_gc)
section
variable {P : Program} {w : World} {K : PySem.W.Frag} {hp : Heap} {mg : Str → Option Value} {base : Heap}

section
variable {b : Option Addr} {hs : Hs} {es : Es} {ta ti tj : TE}
theorem ev_row {rows : Rows} {i : Nat} {r : List Str} (ha : EV b hs es ta (rRows rows)) (hi : EV b hs es ti (rInt (i : Int))) (hr : rows[i]? = some r) : EV b hs es (tOp (rIxL K) ta ti) (rStrs r) :=
  ev_opV ha hi (rv_ixL lat_data (by omega) (by rw [List.getElem?_map, Int.toNat_natCast, hr]; rfl))
theorem ev_item {r : List Str} {j : Nat} {z : Str} (ha : EV b hs es ta (rStrs r)) (hj : EV b hs es tj (rInt (j : Int))) (hr : r[j]? = some z) : EV b hs es (tOp (rIxL K) ta tj) (rStr z) :=
  ev_opV ha hj (rv_ixL lat_data (by omega) (by rw [List.getElem?_map, Int.toNat_natCast, hr]; rfl))
/-- rows[i][j] -/
theorem ev_at {rows : Rows} (s : Shape rows) {i j : Nat} (h1 : i < rows.length) (h2 : j < wid rows) (ha : EV b hs es ta (rRows rows)) (hi : EV b hs es ti (rInt (i : Int))) (hj : EV b hs es tj (rInt (j : Int))) : EV b hs es (tOp (rIxL K) (tOp (rIxL K) ta ti) tj) (rStr (atR rows ((i : Int), (j : Int)))) := by
  obtain ⟨r, e1, _, e2⟩ := s.at_ h1 h2
  exact ev_item (ev_row ha hi e1) hj e2
theorem ev_nrows {rows : Rows} (ha : EV b hs es ta (rRows rows)) : EV b hs es (tCB (rLenK K) (tCons ta tNil)) (rInt (rows.length : Nat)) := ev_lenM ha lat_data
theorem ev_wid {rows : Rows} (s : Shape rows) (ha : EV b hs es ta (rRows rows)) : EV b hs es (tCB (rLenK K) (tCons (tOp (rIxL K) ta (tC (.int 0))) tNil)) (rInt (wid rows : Nat)) := by
  obtain ⟨r, e1, e2⟩ := s.hd
  rw [← e2]
  exact ev_lenM (f := rStr) (ev_row (i := 0) ha ev_c e1) lat_data
end
def CT_L_law_cells_of : Option Addr → List Rep → Rep → Prop := fun _ rs R => ∃ rows n, Shape rows ∧ rs = [rRows rows, rStr n] ∧ R = rCells (cellsOf rows n)
theorem len_L_law_cells_of : ∀ b rs R, CT_L_law_cells_of b rs R → rs.length = 2 := fun _ _ _ ⟨_, _, _, e, _⟩ => by rw [e]; rfl
theorem sc_L_law_cells_of : FnScope ["_law_rows", "_law_name", "_law_cell"] ["_law_rows", "_law_name"] K9H.d_L_law_cells_of.scope := ⟨rfl, rfl, rfl, by decide +kernel, rfl, by decide +kernel, by decide +kernel⟩
theorem c_L_law_cells_of (X : K.In hp) (G : hp.Ns mainGlobals mg) (c : K9H.Sy K) : Cal P w K mg base 2 "_law_cells_of" (SpD CT_L_law_cells_of) [] := by
  obtain ⟨fd, F⟩ := c.def_ 51 (d := K9H.d_L_law_cells_of) rfl
  have F : FunD K K9H.d_L_law_cells_of.name K9H.d_L_law_cells_of.qual K9H.d_L_law_cells_of.params K9H.d_L_law_cells_of.body K9H.d_L_law_cells_of.scope [] [] _ fd := F
  have T := txt X G c
  have C_L_law_all_cells := c_L_law_all_cells (P := P) (w := w) (base := base) X G c
  have sc := sc_L_law_cells_of
  refine calD F (He.glo_ok X G (c.fact 39 (f := .glo "_law_cells_of") rfl)) (bindsD F fun _ _ _ _ _ _ us hl => match us, hl with | [_, _], _ => rfl) (fnD (ps := ["_law_rows", "_law_name"]) F sc CT_L_law_cells_of ?_ ?_)
  case refine_1 => exact len_L_law_cells_of
  refine fun cdv A outer s H E hr => ⟨_, (pss_one (ps_ret (pe_lc (own := [("_law_cell", 2)]) rfl sc.nd (pi_listK (K := K) rfl (pe_c C_L_law_all_cells hr (by decide) (by rfl) (pa_cons (pe_callB (id := "len") (call_lenK (K := K) rfl) (by rfl) T.z_len (by decide +kernel) (pa_cons (pv 0) pa_nil)) (pa_cons (pe_callB (id := "len") (call_lenK (K := K) rfl) (by rfl) T.z_len (by decide +kernel) (pa_cons (pe_ix (ix_listK (K := K) rfl) (pv 0) pe_int (fun _ _ => rfl)) pa_nil)) pa_nil)))) (blkOk_by (by kernel_rfl)) (fun _ _ _ _ _ => (pg_name (i := 2) sc.nd rfl (by first | exact Or.inl rfl | exact Or.inr rfl))) (fun _ _ _ _ _ => (pts_one (pt_cmpR op_eq (pe_ix (ix_listK (K := K) rfl) (pe_ix (ix_listK (K := K) rfl) (pv 0) (pe_ix (ix_tupK (K := K) rfl) (pv 2) pe_int (fun _ _ => rfl)) (fun _ _ => rfl)) (pe_ix (ix_tupK (K := K) rfl) (pv 2) pe_int (fun _ _ => rfl)) (fun _ _ => rfl)) (pv 1) (nomark _)))) (fun _ _ _ _ _ => (pv 2))))), fun B Q rs R hC hgs k => ?_⟩
  obtain ⟨rows, n, s, rfl, rfl⟩ := hC
  refine w_ret (R := rCells (cellsOf rows n)) (en_lc (allC rows.length (wid rows)) (fun c => decide (atR rows c = n)) rCell (src_list (ev_call (ea_cons (ev_nrows (ev_var rfl)) (ea_cons (ev_wid s (ev_var rfl)) ea_nil)) ⟨_, _, s.h12, s.w12, rfl, rfl⟩)) (fun _ _ => gt_name) (fun _ h => h) (Nat.le_trans (allC_144 s.h12 s.w12) (by decide)) (fun c hc => ?_) (fun c _ _ => ev_var rfl)).ev k
  obtain ⟨i, j, rfl, hi, hj⟩ := mem_allC.mp hc
  refine et_to (et_test (ev_opV (ev_at s hi hj (ev_var rfl) (ev_opV (ev_var rfl) ev_c (rv_ixT (by decide) rfl)) (ev_opV (ev_var rfl) ev_c (rv_ixT (by decide) rfl))) (ev_var rfl) (rv_eq rfl))) ?_
  rw [decide_eq_decide]
  exact ⟨fun z => by injection z, fun z => by rw [z]⟩
def CT_L_law_named_anew : Option Addr → List Rep → Rep → Prop := fun _ rs R => ∃ rows cs n, Shape rows ∧ rs = [rRows rows, rCells cs, rStr n] ∧ R = rRows (anew rows cs n)
theorem len_L_law_named_anew : ∀ b rs R, CT_L_law_named_anew b rs R → rs.length = 3 := fun _ _ _ ⟨_, _, _, _, e, _⟩ => by rw [e]; rfl
theorem nd_range_map {f : Nat → Rep} {n : Nat} : ((List.range n).map f).length = n := by rw [List.length_map, List.length_range]
theorem sc_L_law_named_anew : FnScope ["_law_rows", "_law_cells", "_law_name", "_law_k", "_law_at"] ["_law_rows", "_law_cells", "_law_name"] K9H.d_L_law_named_anew.scope := ⟨rfl, rfl, rfl, by decide +kernel, rfl, by decide +kernel, by decide +kernel⟩
theorem c_L_law_named_anew (X : K.In hp) (G : hp.Ns mainGlobals mg) (c : K9H.Sy K) : Cal P w K mg base 1 "_law_named_anew" (SpD CT_L_law_named_anew) [] := by
  obtain ⟨fd, F⟩ := c.def_ 57 (d := K9H.d_L_law_named_anew) rfl
  have F : FunD K K9H.d_L_law_named_anew.name K9H.d_L_law_named_anew.qual K9H.d_L_law_named_anew.params K9H.d_L_law_named_anew.body K9H.d_L_law_named_anew.scope [] [] _ fd := F
  have T := txt X G c
  have sc := sc_L_law_named_anew
  refine calD F (He.glo_ok X G (c.fact 45 (f := .glo "_law_named_anew") rfl)) (bindsD F fun _ _ _ _ _ _ us hl => match us, hl with | [_, _, _], _ => rfl) (fnD (ps := ["_law_rows", "_law_cells", "_law_name"]) F sc CT_L_law_named_anew ?_ ?_)
  case refine_1 => exact len_L_law_named_anew
  refine fun cdv A outer s H E hr => ⟨_, (pss_one (ps_ret (pe_lc (own := [("_law_at", 4)]) rfl sc.nd (pi_range1 (by rfl) T.z_range (pa_cons (pe_callB (id := "len") (call_lenK (K := K) rfl) (by rfl) T.z_len (by decide +kernel) (pa_cons (pv 0) pa_nil)) pa_nil)) (blkOk_by (by kernel_rfl)) (fun _ _ _ _ _ => (pg_name (i := 4) sc.nd rfl (by first | exact Or.inl rfl | exact Or.inr rfl))) (fun _ _ _ _ _ => pts_nil) (fun _ _ _ _ _ => (pe_lc (own := [("_law_k", 3)]) rfl sc.nd (pi_range1 (by rfl) T.z_range (pa_cons (pe_callB (id := "len") (call_lenK (K := K) rfl) (by rfl) T.z_len (by decide +kernel) (pa_cons (pe_ix (ix_listK (K := K) rfl) (pv 0) pe_int (fun _ _ => rfl)) pa_nil)) pa_nil)) (blkOk_by (by kernel_rfl)) (fun _ _ _ _ _ => (pg_name (i := 3) sc.nd rfl (by first | exact Or.inl rfl | exact Or.inr rfl))) (fun _ _ _ _ _ => pts_nil) (fun _ _ _ _ _ => (pe_ifExp (pt_cmpR (op_inDK (K := K) (hu65_of hr) rfl) (pe_tup (pa_cons (pv 4) (pa_cons (pv 3) pa_nil))) (pv 1) (by rfl)) (pv 2) (pe_ix (ix_listK (K := K) rfl) (pe_ix (ix_listK (K := K) rfl) (pv 0) (pv 4) (fun _ _ => rfl)) (pv 3) (fun _ _ => rfl))))))))), fun B Q rs R hC hgs k => ?_⟩
  obtain ⟨rows, cs, n, s, rfl, rfl⟩ := hC
  have h12 := s.h12
  have w12 := s.w12
  refine w_ret (R := rRows (anew rows cs n)) (ev_to (en_lcA (List.range rows.length) (fun i => rStrs ((List.range (wid rows)).map fun (j : Nat) => if ((i : Int), (j : Int)) ∈ cs then n else atR rows ((i : Int), (j : Int)))) (src_range (n := (rows.length : Int)) (ea_cons (ev_nrows (ev_var rfl)) ea_nil) (by omega) (by omega)) (fun _ _ => gt_name) (fun _ h => h) (by rw [List.length_range]; omega) (fun i hi => ?_)).ev ?_) k
  · have hi := List.mem_range.mp hi
    refine ev_to (en_lcA (List.range (wid rows)) (fun j => rStr (if ((i : Int), (j : Int)) ∈ cs then n else atR rows ((i : Int), (j : Int)))) (src_range (n := (wid rows : Int)) (ea_cons (ev_wid s (ev_var rfl)) ea_nil) (by omega) (by omega)) (fun _ _ => gt_name) (fun _ h => h) (by rw [List.length_range]; omega) (fun j hj => ?_)).ev ?_
    · have hj := List.mem_range.mp hj
      refine ev_if (c := decide (((i : Int), (j : Int)) ∈ cs)) (et_to (et_test (ev_opV (ev_tup (ea_cons (ev_var rfl) (ea_cons (ev_var rfl) ea_nil))) (ev_var rfl) (rv_inD (d := pyC ((i : Int), (j : Int))) (ds := cs.map pyC) (dp_C (c := ((i : Int), (j : Int)))) dp_Cs ((shp_C _).ok (by decide)) ((shp_Cs cs).ok (by decide))))) any_C) (fun h => ?_) (fun h => ?_)
      · rw [if_pos (of_decide_eq_true h)]
        exact ev_var rfl
      · rw [if_neg (of_decide_eq_false h)]
        exact ev_at s hi hj (ev_var rfl) (ev_var rfl) (ev_var rfl)
    · show rL _ = rL _
      rw [List.map_map]
      rfl
  · show rL _ = rL _
    unfold anew
    rw [List.map_map]
    rfl
/-- a good map: its shape, its names words -/
structure Good (rows : Rows) : Prop where
  sh : Shape rows
  wd : ∀ r ∈ rows, ∀ z ∈ r, IsWord z
def CT_check_rows : Option Addr → List Rep → Rep → Prop := fun _ rs R => ∃ rows, Good rows ∧ rs = [rRows rows] ∧ R = rNon
theorem len_check_rows : ∀ b rs R, CT_check_rows b rs R → rs.length = 1 := fun _ _ _ ⟨_, _, e, _⟩ => by rw [e]; rfl
theorem chain12 {n : Nat} (h1 : 1 ≤ n) (h2 : n ≤ 12) : (decide ((1 : Int) ≤ (n : Nat)) && decide (((n : Nat) : Int) ≤ 12)) = true := by
  rw [decide_eq_true (by omega), decide_eq_true (by omega)]
  rfl
theorem sc_check_rows : FnScope ["rows", "at", "row", "name"] ["rows"] K9H.d_check_rows.scope := ⟨rfl, rfl, rfl, by decide +kernel, rfl, by decide +kernel, by decide +kernel⟩
theorem c_check_rows (X : K.In hp) (G : hp.Ns mainGlobals mg) (c : K9H.Sy K) : Cal P w K mg base 2 "check_rows" (SpD CT_check_rows) [] := by
  obtain ⟨fd, F⟩ := c.def_ 12 (d := K9H.d_check_rows) rfl
  have F : FunD K K9H.d_check_rows.name K9H.d_check_rows.qual K9H.d_check_rows.params K9H.d_check_rows.body K9H.d_check_rows.scope [] [] _ fd := F
  have T := txt X G c
  have C_is_list := c_is_list (P := P) (w := w) (base := base) X G c
  have C_is_name := c_is_name (P := P) (w := w) (base := base) X G c
  have sc := sc_check_rows
  refine calD F (He.glo_ok X G (c.fact 12 (f := .glo "check_rows") rfl)) (bindsD F fun _ _ _ _ _ _ us hl => match us, hl with | [_], _ => rfl) (fnD (ps := ["rows"]) F sc CT_check_rows ?_ ?_)
  case refine_1 => exact len_check_rows
  refine fun cdv A outer s H E hr => ⟨_, (pss_cons (ps_if (PW.pt (pw_or (pt_not (pt_val (pe_c C_is_list hr (by decide) (by rfl) (pa_cons (pv 0) pa_nil)))) (pw_or1 (pt_not (pt_chain op_le op_le pe_int (pe_callB (id := "len") (call_lenK (K := K) rfl) (by rfl) T.z_len (by decide +kernel) (pa_cons (pv 0) pa_nil)) (pe_gc (by rfl) T.g_MOST_SIZE))))))
  (pss_one ps_never)
  pss_nil)
  (pss_one (ps_for PassesOwn.never rfl (pi_enum (by rfl) T.z_enumerate (pa_cons (pv 0) pa_nil)) (pg_tupK (K := K) (n := 2) rfl rfl (pgs_cons (pg_name (i := 1) sc.nd rfl (by first | exact Or.inl rfl | exact Or.inr rfl)) (pgs_cons (pg_name (i := 2) sc.nd rfl (by first | exact Or.inl rfl | exact Or.inr rfl)) pgs_nil)))
  (pss_cons (ps_if (PW.pt (pw_or (pt_not (pt_val (pe_c C_is_list hr (by decide) (by rfl) (pa_cons (pv 2) pa_nil)))) (pw_or (pt_not (pt_chain op_le op_le pe_int (pe_callB (id := "len") (call_lenK (K := K) rfl) (by rfl) T.z_len (by decide +kernel) (pa_cons (pv 2) pa_nil)) (pe_gc (by rfl) T.g_MOST_SIZE))) (pw_or1 (pt_cmpR op_ne (pe_callB (id := "len") (call_lenK (K := K) rfl) (by rfl) T.z_len (by decide +kernel) (pa_cons (pv 2) pa_nil)) (pe_callB (id := "len") (call_lenK (K := K) rfl) (by rfl) T.z_len (by decide +kernel) (pa_cons (pe_ix (ix_listK (K := K) rfl) (pv 0) pe_int (fun _ _ => rfl)) pa_nil)) (nomark _))))))
  (pss_one ps_never)
  pss_nil)
  (pss_one (ps_if (pt_not (pt_val (pe_callB (id := "all") (cr_allK (K := K) rfl rfl) (by rfl) T.z_all (by decide +kernel) (pa_cons (pe_lc (own := [("name", 3)]) rfl sc.nd (pi_listK (K := K) rfl (pv 2)) (blkOk_by (by kernel_rfl)) (fun _ _ _ _ _ => (pg_name (i := 3) sc.nd rfl (by first | exact Or.inl rfl | exact Or.inr rfl))) (fun _ _ _ _ _ => pts_nil) (fun _ _ _ _ _ => (pe_c C_is_name hr (by decide) (by rfl) (pa_cons (pv 3) pa_nil)))) pa_nil))))
  (pss_one ps_never)
  pss_nil)))))), fun B Q rs R hC hgs k => ?_⟩
  obtain ⟨rows, g, rfl, rfl⟩ := hC
  have s := g.sh
  refine q_no (et_to (et_or (et_not (et_B (ev_call (ea_cons (ev_var rfl) ea_nil) ⟨_, Or.inl ty_L, rfl, rfl⟩))) fun _ => et_not (et_test (ev_chain ev_c (ev_nrows (ev_var rfl)) rv_I0 (fun _ => ev_c) fun _ => rv_I0))) ?_) ?_
  · rw [chain12 s.h1 s.h12]
    rfl
  refine w_for (src_enum (Gf := rStrs) (xs := rows) (ea_cons (ev_var rfl) ea_nil)) (fun (i : Nat) (u : Unit) => True) (fun _ => []) (fun _ => [some (rRows rows), none, none, none]) () True.intro rfl ⟨rfl, True.intro⟩ (fun _ _ => gt_tup2 gt_name gt_name) ?_ ?_
  · rintro gs i ⟨r, j⟩ _ hy _
    obtain ⟨hr, _⟩ := zip_at hy
    have hr : rows[i]? = some r := hr
    have hm : r ∈ rows := List.mem_of_getElem? hr
    have hw : r.length = wid rows := s.rect r hm
    refine q_no (et_to (et_or (et_not (et_B (ev_call (ea_cons (ev_var rfl) ea_nil) ⟨_, Or.inl ty_L, rfl, rfl⟩))) fun _ => et_or (et_not (et_test (ev_chain ev_c (ev_lenM (ev_var rfl) lat_data) rv_I0 (fun _ => ev_c) fun _ => rv_I0))) fun _ => et_test (ev_opV (ev_lenM (ev_var rfl) lat_data) (ev_wid s (ev_var rfl)) (rv_ne rfl))) ?_) ?_
    · show (!true || (!(decide ((1 : Int) ≤ (r.length : Nat)) && decide (((r.length : Nat) : Int) ≤ 12)) || !decide (V.int ((r.length : Nat) : Int) = V.int ((wid rows : Nat) : Int)))) = false
      rw [hw, chain12 s.w1 s.w12, decide_eq_true rfl]
      rfl
    refine w_no (et_to (et_not (et_B (ev_cb (ea_cons (ev_to (en_lcA r (fun _ => rBl true) (src_list (ev_var rfl)) (fun _ _ => gt_name) (fun _ h => h) (by have := s.w12; omega) (fun z hz => ev_call (ea_cons (ev_var rfl) ea_nil) ⟨z, g.wd r hm z hz, rfl, rfl⟩)).ev ?_) ea_nil) (rc_all (cs := r.map fun _ => true))))) ?_) ?_
    · rw [List.map_map]
      rfl
    · have : (r.map fun _ => true).all id = true := by
        rw [List.all_eq_true]
        intro x hx
        obtain ⟨_, _, rfl⟩ := List.mem_map.mp hx
        rfl
      rw [this]
      rfl
    · dsimp only
      exact n_inv () True.intro rfl (by exact ⟨rfl, True.intro⟩)
  · rintro x _
    exact n_fall k fun _ => rfl
def CT_check_road : Option Addr → List Rep → Rep → Prop := fun _ rs R => ∃ (cs : List Cell) (h w : Nat), cs.Nodup ∧ (∀ c ∈ cs, c ∈ allC h w ∧ edgeB h w c = true) ∧ h ≤ 12 ∧ w ≤ 12 ∧ cs.length ≤ 1000 ∧ rs = [rCells cs, rInt h, rInt w] ∧ R = rNon
theorem len_check_road : ∀ b rs R, CT_check_road b rs R → rs.length = 3 := fun _ _ _ ⟨_, _, _, _, _, _, _, _, e, _⟩ => by rw [e]; rfl
theorem sc_check_road : FnScope ["road", "height", "width", "seen", "at", "cell"] ["road", "height", "width"] K9H.d_check_road.scope := ⟨rfl, rfl, rfl, by decide +kernel, rfl, by decide +kernel, by decide +kernel⟩
theorem c_check_road (X : K.In hp) (G : hp.Ns mainGlobals mg) (c : K9H.Sy K) : Cal P w K mg base 5 "check_road" (SpD CT_check_road) [] := by
  obtain ⟨fd, F⟩ := c.def_ 15 (d := K9H.d_check_road) rfl
  have F : FunD K K9H.d_check_road.name K9H.d_check_road.qual K9H.d_check_road.params K9H.d_check_road.body K9H.d_check_road.scope [] [] _ fd := F
  have T := txt X G c
  have C_is_list := c_is_list (P := P) (w := w) (base := base) X G c
  have C_is_edge := c_is_edge (P := P) (w := w) (base := base) X G c
  have sc := sc_check_road
  refine calD F (He.glo_ok X G (c.fact 15 (f := .glo "check_road") rfl)) (bindsD F fun _ _ _ _ _ _ us hl => match us, hl with | [_, _, _], _ => rfl) (fnD (ps := ["road", "height", "width"]) F sc CT_check_road ?_ ?_)
  case refine_1 => exact len_check_road
  refine fun cdv A outer s H E hr => ⟨_, (pss_cons (ps_if (pt_not (pt_val (pe_c C_is_list hr (by decide) (by rfl) (pa_cons (pv 0) pa_nil))))
  (pss_one ps_never)
  pss_nil)
  (pss_cons (ps_set (i := 3) sc.nd rfl (by first | exact Or.inl rfl | exact Or.inr rfl) pe_dnewT)
  (pss_one (ps_for PassesOwn.never rfl (pi_enum (by rfl) T.z_enumerate (pa_cons (pv 0) pa_nil)) (pg_tupK (K := K) (n := 2) rfl rfl (pgs_cons (pg_name (i := 4) sc.nd rfl (by first | exact Or.inl rfl | exact Or.inr rfl)) (pgs_cons (pg_name (i := 5) sc.nd rfl (by first | exact Or.inl rfl | exact Or.inr rfl)) pgs_nil)))
  (pss_cons (ps_if (PW.pt (pw_or (pt_not (pt_val (pe_c C_is_edge hr (by decide) (by rfl) (pa_cons (pv 5) (pa_cons (pv 1) (pa_cons (pv 2) pa_nil)))))) (pw_or1 (pt_cmp (pc_din (hu_of hr) (pv 5) (pv 3))))))
  (pss_one ps_never)
  pss_nil)
  (pss_one (ps_dput (hu_of hr) (pv 3) (pv 5) pe_bl rfl))))))), fun B Q rs R hC hgs k => ?_⟩
  obtain ⟨cs, h, w', nd, ed, h12, w12, hl, rfl, rfl⟩ := hC
  refine q_no (et_to (et_not (et_B (ev_call (ea_cons (ev_var rfl) ea_nil) ⟨_, Or.inl ty_L, rfl, rfl⟩))) rfl) (q_new (en_dT' (f := fun _ => rBl true)) fun p => ?_)
  refine w_for (src_enum (Gf := rCell) (xs := cs) (ea_cons (ev_var rfl) ea_nil)) (fun (i x : Nat) => x = i) (fun x => [(p, hSet (cs.take x))]) (fun _ => [some (rCells cs), some (rInt h), some (rInt w'), some (rAt p), none, none]) 0 rfl rfl ⟨rfl, rfl, rfl, rfl, True.intro⟩ (fun _ _ => gt_tup2 gt_name gt_name) ?_ ?_
  · rintro gs i ⟨c, j⟩ x hy rfl
    obtain ⟨hc, _⟩ := zip_at hy
    have hm : c ∈ cs := List.mem_of_getElem? hc
    have hn := nd_take nd hc
    obtain ⟨hall, hedge⟩ := ed c hm
    obtain ⟨ci, cj, rfl, hi, hj⟩ := mem_allC.mp hall
    refine q_no (et_to (et_or (et_not (et_B (ev_call (ea_cons (ev_var rfl) (ea_cons (ev_var rfl) (ea_cons (ev_var rfl) ea_nil))) ⟨_, _, _, okC_allC h12 w12 hall, by show (ci : Int) < h; omega, by show (cj : Int) < w'; omega, rfl, rfl⟩))) fun _ => (et_B (ev_din (ev_var rfl) (ev_var rfl) key_cell (fun _ => dat_hot (by first | exact List.mem_cons_self | exact List.mem_cons_of_mem _ List.mem_cons_self | exact List.mem_cons_of_mem _ (List.mem_cons_of_mem _ List.mem_cons_self)))))) ?_) ?_
    · rw [hedge, ck_dec, decide_eq_false hn]
      rfl
    refine w_dput (n := 0) (f' := fun _ => rBl true) rfl ev_c (ev_var rfl) (ev_var rfl) key_cell ?_ (fun _ _ h => h) (fun _ _ _ _ _ h => h) ?_
    · rw [List.length_map, List.length_take]
      omega
    · dsimp only
      refine n_inv (x + 1) rfl ?_ (by exact ⟨rfl, rfl, rfl, rfl, True.intro⟩)
      show [(p, hDT _ _)] = [(p, hSet _)]
      rw [hSet_add hn, take_snoc hc]
  · rintro x rfl
    exact n_fall k fun _ => rfl
def CT_check_part : Option Addr → List Rep → Rep → Prop := fun _ rs R => ∃ (cs own : List Cell) (Rq : Rep), QRep rCell cs Rq ∧ cs.Nodup ∧ own.Nodup ∧ (∀ c ∈ cs, c ∈ own ∧ okC c = true) ∧ cs.length ≤ 1000 ∧ own.length ≤ 1000 ∧ rs = [Rq, rCells own] ∧ R = rNon
theorem len_check_part : ∀ b rs R, CT_check_part b rs R → rs.length = 2 := fun _ _ _ ⟨_, _, _, _, _, _, _, _, _, e, _⟩ => by rw [e]; rfl
theorem sc_check_part : FnScope ["cells", "own", "known", "seen", "at", "cell"] ["cells", "own"] K9H.d_check_part.scope := ⟨rfl, rfl, rfl, by decide +kernel, rfl, by decide +kernel, by decide +kernel⟩
theorem c_check_part (X : K.In hp) (G : hp.Ns mainGlobals mg) (c : K9H.Sy K) : Cal P w K mg base 4 "check_part" (SpD CT_check_part) [] := by
  obtain ⟨fd, F⟩ := c.def_ 16 (d := K9H.d_check_part) rfl
  have F : FunD K K9H.d_check_part.name K9H.d_check_part.qual K9H.d_check_part.params K9H.d_check_part.body K9H.d_check_part.scope [] [] _ fd := F
  have T := txt X G c
  have C_is_list := c_is_list (P := P) (w := w) (base := base) X G c
  have C_is_cell := c_is_cell (P := P) (w := w) (base := base) X G c
  have sc := sc_check_part
  refine calD F (He.glo_ok X G (c.fact 16 (f := .glo "check_part") rfl)) (bindsD F fun _ _ _ _ _ _ us hl => match us, hl with | [_, _], _ => rfl) (fnD (ps := ["cells", "own"]) F sc CT_check_part ?_ ?_)
  case refine_1 => exact len_check_part
  refine fun cdv A outer s H E hr => ⟨_, (pss_cons (ps_if (pt_not (pt_val (pe_c C_is_list hr (by decide) (by rfl) (pa_cons (pv 0) pa_nil))))
  (pss_one ps_never)
  pss_nil)
  (pss_cons (ps_par (i := 2) (j := 3) rfl sc.nd rfl rfl (by decide) rfl rfl (pa_cons (pe_dcT (hu_of hr) (own := [("cell", 5)]) rfl sc.nd (pi_listK (K := K) rfl (pv 1)) (blkOk_by (by kernel_rfl)) (fun _ _ _ _ _ => (pg_name (i := 5) sc.nd rfl (by first | exact Or.inl rfl | exact Or.inr rfl))) (fun _ _ _ _ _ => pts_nil) (fun _ _ _ _ _ => (pv 5)) (fun _ _ _ _ _ => pe_bl)) (pa_cons pe_dnewT pa_nil)) (by rfl))
  (pss_one (ps_for PassesOwn.never rfl (pi_enumQ (by rfl) T.z_enumerate (pa_cons (pv 0) pa_nil)) (pg_tupK (K := K) (n := 2) rfl rfl (pgs_cons (pg_name (i := 4) sc.nd rfl (by first | exact Or.inl rfl | exact Or.inr rfl)) (pgs_cons (pg_name (i := 5) sc.nd rfl (by first | exact Or.inl rfl | exact Or.inr rfl)) pgs_nil)))
  (pss_cons (ps_if (PW.pt (pw_or (pt_not (pt_val (pe_c C_is_cell hr (by decide) (by rfl) (pa_cons (pv 5) pa_nil)))) (pw_or (pt_cmp (pc_dnotin (hu_of hr) (pv 5) (pv 2))) (pw_or1 (pt_cmp (pc_din (hu_of hr) (pv 5) (pv 3)))))))
  (pss_one ps_never)
  pss_nil)
  (pss_one (ps_dput (hu_of hr) (pv 3) (pv 5) pe_bl rfl))))))), fun B Q rs R hC hgs k => ?_⟩
  obtain ⟨cs, own, Rq, hq, nd, no, sub, hl, hlo, rfl, rfl⟩ := hC
  refine q_no (et_to (et_not (et_B (ev_call (ea_cons (ev_var rfl) ea_nil) ⟨_, hq.ty, rfl, rfl⟩))) rfl) (w_seq ?_)
  refine w_par1 (Ra := rSet own) (h2 := hSet []) (en_known no hlo (src_list (ev_var rfl)) (fun _ => rfl)).ev en_dT' fun p => ?_
  dsimp only
  refine w_for (src_enumQ (Gf := rCell) (xs := cs) hq (ea_cons (ev_var rfl) ea_nil)) (fun (i x : Nat) => x = i) (fun x => [(p, hSet (cs.take x))]) (fun _ => [some Rq, some (rCells own), some (rSet own), some (rAt p), none, none]) 0 rfl rfl ⟨rfl, rfl, rfl, rfl, True.intro⟩ (fun _ _ => gt_tup2 gt_name gt_name) ?_ ?_
  · rintro gs i ⟨c, j⟩ x hy rfl
    obtain ⟨hc, _⟩ := zip_at hy
    have hc : cs[x]? = some c := hc
    have hm : c ∈ cs := List.mem_of_getElem? hc
    have hn := nd_take nd hc
    obtain ⟨ho, ok⟩ := sub c hm
    refine q_no (et_to (et_or (et_not (et_B (ev_call (ea_cons (ev_var rfl) ea_nil) ⟨_, rfl, rfl⟩))) fun _ => (et_or (et_B (ev_dnotin (ev_var rfl) (ev_var rfl) key_cell (fun _ => dat_data))) fun _ => (et_B (ev_din (ev_var rfl) (ev_var rfl) key_cell (fun _ => dat_hot (by first | exact List.mem_cons_self | exact List.mem_cons_of_mem _ List.mem_cons_self | exact List.mem_cons_of_mem _ (List.mem_cons_of_mem _ List.mem_cons_self))))))) ?_) ?_
    · rw [ok, ck_dec, ck_dec, decide_eq_false hn, decide_eq_true ho]
      rfl
    refine w_dput (n := 0) (f' := fun _ => rBl true) rfl ev_c (ev_var rfl) (ev_var rfl) key_cell ?_ (fun _ _ h => h) (fun _ _ _ _ _ h => h) ?_
    · rw [List.length_map, List.length_take]
      omega
    · dsimp only
      refine n_inv (x + 1) rfl ?_ (by exact ⟨rfl, rfl, rfl, rfl, True.intro⟩)
      show [(p, hDT _ _)] = [(p, hSet _)]
      rw [hSet_add hn, take_snoc hc]
  · rintro x rfl
    exact n_fall k fun _ => rfl

end
end K9W
end
section
set_option Elab.async false
set_option linter.all false
set_option maxRecDepth 100000
set_option maxHeartbeats 2000000
namespace L2.K9A
open PySem PySem.Spec PyProof.Rows L2 L2.K9R
section
variable {b : Option Addr} {S : List Addr} {hs : Hs} {es : Es} {σ : St} {H H1 H' : Hp} {ta tb tc te tk tv : TE} {tt tu : TT} {tar : TA} {R Ra Rb Rc : Rep} {K : PySem.W.Frag} {h : HRep} {B : Bs} {D : Ends} {wi : TI} {g : TG} {w : World}
theorem upd_upd {H : Hp} {p : Addr} {o o' : HO} : upd (upd H p o) p o' = upd H p o' := by
  funext q
  by_cases e : q = p
  · subst e
    rw [upd_same, upd_same]
  · rw [upd_ne e, upd_ne e, upd_ne e]
theorem tyesI {σ : L2.St} {H : Hp} {X Y : Hp → Prop} (h : X H) : tYes σ H (fun b H3 => if b = true then X H3 else Y H3) := by
  show (if true = true then X H else Y H)
  rw [if_pos rfl]
  exact h
/-- a set of texts -/
def rSO (w : World) (L : List Str) : Rep := ⟨fun v M => ∃ a, v = .ref a ∧ M a = some (SetSO w a L), fun s h => by
  obtain ⟨a, e, ha⟩ := h
  exact ⟨a, e, s _ _ ha⟩⟩
theorem rStrs_at {ss : List Str} {v : V} (h : (rL (ss.map rStr)).P v (msk S H)) : ∃ a, v = .ref a ∧ H a = some (.lst (ss.map V.str)) := by
  obtain ⟨a, vs, e, ha, _, al⟩ := rL_at h
  have ev : vs = ss.map V.str := All2.consts V.str al
  subst ev
  exact ⟨a, e, ha⟩
theorem ev_setOf {ss : List Str} (ha : EV b hs es ta (rL (ss.map rStr))) (hl : ss.length + 1 < 4096) : EV b hs es (tCB (rSetOfS K w) (tCons ta tNil)) (rSO w (addAll ss)) := ev_cb (ea_cons ha ea_nil) fun S H vs k _ al Q q => by
  obtain ⟨x, rfl, hx⟩ := all1 al
  obtain ⟨a, e, ha⟩ := rStrs_at hx
  exact ⟨a, ss, by rw [e], sq_of ha, hl, fun p hp => q _ _ (Fr.new k hp) ⟨p, rfl, (msk_out (new_out k hp)).trans upd_same⟩⟩
theorem en_sortedSet {L : List Str} (ha : EV b hs es ta (rSO w L)) : EN b hs es (tCB (rSortedSetS w) (tCons ta tNil)) (hEx (fun ys : List Str => ys.Perm L ∧ sortedS ys = true) fun ys => hL (ys.map rStr)) := en_cb (ea_cons ha ea_nil) fun S H vs k _ al Q q => by
  obtain ⟨x, rfl, a, e, hx⟩ := all1 al
  refine ⟨a, L, by rw [e], msk_same _ _ hx, fun ys p pm hsr hp => ?_⟩
  exact en_new (h := hEx (fun ys : List Str => ys.Perm L ∧ sortedS ys = true) fun ys => hL (ys.map rStr)) k (Fr.refl k) ⟨ys, ⟨pm, hsr⟩, _, rfl, All2.of_map _ _ (fun _ => rfl) ys⟩ q p hp
/-- sum(rows, []) -/
theorem en_sumL {rows : List (List Str)} (ne : rows ≠ []) (ha : EV b hs es ta (rL (rows.map fun r => rL (r.map rStr)))) (hl : rows.flatten.length ≤ 100000) : EN b hs es (tCB (rSumL K) (tCons ta (tCons (tLst tNil) tNil))) (hL (rows.flatten.map rStr)) := en_cb (Rs := [rL (rows.map fun r => rL (r.map rStr)), rL []]) (ea_cons ha (ea_cons (ev_lst ea_nil) ea_nil)) fun S H vs k _ al Q q => by
  obtain ⟨x, y, rfl, hx, hy⟩ := all_2 al
  obtain ⟨a, ws, e, ha, _, aw⟩ := rL_at hx
  obtain ⟨a0, ws0, e0, ha0, _, aw0⟩ := rL_at hy
  have ew0 : ws0 = [] := by
    cases ws0 with
    | nil => rfl
    | cons _ _ => exact aw0.elim
  subst ew0
  have all : ∀ {rows : List (List Str)} {ws : List V}, All2 (rows.map fun r => rL (r.map rStr)) ws (msk S H) → ∃ as : List Addr, ws = as.map V.ref ∧ as.length = rows.length ∧ ∀ (j : Nat) (a : Addr) (r : List Str), as[j]? = some a → rows[j]? = some r → H a = some (.lst (r.map V.str)) := by
    intro rows
    induction rows with
    | nil =>
      intro ws al
      cases ws with
      | nil => exact ⟨[], rfl, rfl, fun j a r h => by simp at h⟩
      | cons _ _ => exact al.elim
    | cons r rows ih =>
      intro ws al
      cases ws with
      | nil => exact al.elim
      | cons v ws =>
        obtain ⟨as, h1, h2, h3⟩ := ih al.2
        obtain ⟨c, ec, hc⟩ := rStrs_at al.1
        refine ⟨c :: as, by rw [h1, ec]; rfl, by rw [List.length_cons, List.length_cons, h2], fun j a r' e1 e2 => ?_⟩
        cases j with
        | zero =>
          cases e1
          cases e2
          exact hc
        | succ j => exact h3 j a r' e1 e2
  obtain ⟨as, h1, h2, h3⟩ := all aw
  have ef : (rows.map fun r => r.map V.str).flatten = rows.flatten.map V.str := by rw [List.map_flatten]
  refine ⟨a, a0, as, rows.map fun r => r.map V.str, by rw [e, e0], by rw [← h1]; exact ha, fun z => ne ?_, ha0, by rw [List.length_map]; exact h2, fun j c cs e1 e2 => ?_, ?_, ?_⟩
  · rw [z] at h2
    exact List.length_eq_zero_iff.mp h2.symm
  · rw [List.getElem?_map] at e2
    obtain ⟨r, er, ecs⟩ := Option.map_eq_some_iff.mp e2
    rw [← ecs]
    exact h3 j c r e1 er
  · rw [ef, List.length_map]
    exact Nat.le_trans hl (by decide)
  · rw [ef]
    exact en_new (h := hL (rows.flatten.map rStr)) k (Fr.refl k) ⟨_, rfl, All2.of_map _ _ (fun _ => rfl) _⟩ q
/-- {name for row in rows for name in row} -/
theorem addAll_app (xs ys : List Str) (y : Str) : addAll (xs ++ (ys ++ [y])) = addS (addAll (xs ++ ys)) y := by rw [← List.append_assoc, addAll_snoc]
theorem ev_lc2S {rows : List (List Str)} {i j : Nat} (hij : i ≠ j) (hi : i < es.length) (hj : j < es.length) (ha : EV b hs es ta (rL (rows.map fun r => rL (r.map rStr)))) (hl : rows.flatten.length + 1 < 4096) :
    EV b hs es (tLc2S w (iList K ta) (gName i) tYes (iList K (tVar i)) (gName j) tYes (tVar j) [i, j] [j]) (rSO w (addAll rows.flatten)) := fun S σ H s Q q => ha S σ H s _ fun v H1 f r => by
  obtain ⟨a, vs, e, hv, hS, al⟩ := rL_at r
  have hlen := al.len
  rw [List.length_map] at hlen
  have sl : σ.length = es.length := s.sl.len
  refine ⟨a, e, ⟨vs, sq_of hv⟩, fun Dd hD => ?_⟩
  have naD : a ≠ Dd := ne_of_none hv hD
  have seqA : ∀ o, SqL K (upd H1 Dd o) a vs := fun o => sq_of (by rw [upd_ne naD]; exact hv)
  refine ⟨fun n m H2 => m = vs.length - n ∧ n ≤ vs.length ∧ H2 = upd H1 Dd (SetSO w Dd (addAll (rows.take n).flatten)), ⟨vs.length, by simp, Nat.zero_le _, rfl⟩, ?_⟩
  rintro n m H2 ⟨rfl, hn, rfl⟩
  by_cases hlt : n < vs.length
  · refine .inr ⟨⟨vs, vs[n], seqA _, by simp [hlt]⟩, fun H2 => n + 1 ≤ vs.length ∧ H2 = upd H1 Dd (SetSO w Dd (addAll (rows.take (n + 1)).flatten)), fun H' p => ⟨vs.length - (n + 1), by omega, rfl, p⟩, fun x Hy y => ?_⟩
    obtain ⟨rfl, hx⟩ := y
    have hx := hx vs (seqA _)
    have hrow : rows[n]? = some (rows[n]'(by omega)) := List.getElem?_eq_getElem (by omega)
    generalize rows[n]'(by omega) = row at hrow
    obtain ⟨v', hv', rv'⟩ := al.get n (r := rL (row.map rStr)) (by rw [List.getElem?_map, hrow]; rfl)
    cases hx.symm.trans hv'
    obtain ⟨c, ec, hc⟩ := rStrs_at rv'
    subst ec
    have ncD : c ≠ Dd := ne_of_none hc hD
    show wipe ((wipe σ [i, j]).set i (some (V.ref c))) [i, j] = wipe σ [i, j] ∧ _
    refine ⟨wipe_eq (fun k hk => List.getElem?_set_ne fun e => hk (by simp [e])) (by rw [List.length_set]), ?_⟩
    refine tyesI ?_
    have hW : (wipe σ [i, j]).length = es.length := by rw [wipe_length, sl]
    refine ⟨V.ref c, List.getElem?_set_self (by rw [hW]; exact hi), c, rfl, ⟨row.map V.str, sq_of (by rw [upd_ne ncD]; exact hc)⟩, ?_⟩
    have seqC : ∀ o, SqL K (upd H1 Dd o) c (row.map V.str) := fun o => sq_of (by rw [upd_ne ncD]; exact hc)
    refine ⟨fun k m H3 => m = row.length - k ∧ k ≤ row.length ∧ H3 = upd H1 Dd (SetSO w Dd (addAll ((rows.take n).flatten ++ row.take k))), ⟨row.length, by simp, Nat.zero_le _, by simp⟩, ?_⟩
    have ht : rows.take (n + 1) = rows.take n ++ [row] := by
      rw [List.take_add_one, hrow]
      rfl
    have hll : (rows.take n).flatten.length + row.length ≤ rows.flatten.length := by
      have e1 : (rows.take (n + 1)).flatten.length ≤ rows.flatten.length := by
        conv => rhs; rw [← List.take_append_drop (n + 1) rows]
        rw [List.flatten_append, List.length_append]
        omega
      rw [ht, List.flatten_append, List.length_append] at e1
      simpa using e1
    rintro k m H3 ⟨rfl, hk, rfl⟩
    by_cases hkl : k < row.length
    · refine .inr ⟨⟨_, V.str row[k], seqC _, by rw [List.getElem?_map, List.getElem?_eq_getElem hkl]; rfl⟩, fun H4 => k + 1 ≤ row.length ∧ H4 = upd H1 Dd (SetSO w Dd (addAll ((rows.take n).flatten ++ row.take (k + 1)))), fun H' p => ⟨row.length - (k + 1), by omega, rfl, p⟩, fun x Hz y => ?_⟩
      obtain ⟨rfl, hx2⟩ := y
      have hx2 := hx2 _ (seqC _)
      rw [List.getElem?_map, List.getElem?_eq_getElem hkl] at hx2
      have ex : V.str row[k] = x := Option.some.inj hx2
      subst ex
      have hlt2 : row.take (k + 1) = row.take k ++ [row[k]] := by
        rw [List.take_add_one, List.getElem?_eq_getElem hkl]
        rfl
      refine ⟨wipe_eq (fun z hz => List.getElem?_set_ne fun e => hz (by simp [e])) (by rw [List.length_set]), tyesI ?_⟩
      refine ⟨_, List.getElem?_set_self (by rw [wipe_length, List.length_set, hW]; exact hj), row[k], addAll ((rows.take n).flatten ++ row.take k), rfl, upd_same, ?_, hkl, ?_⟩
      · refine Nat.lt_of_le_of_lt (Nat.succ_le_succ (len_addAll _)) ?_
        rw [List.length_append, List.length_take]
        show _ < 4096
        omega
      · rw [upd_upd, hlt2, addAll_app]
    · have ek : k = row.length := by omega
      subst ek
      refine .inl ⟨⟨_, seqC _, by rw [List.length_map]; exact Nat.le_refl _⟩, hlt, ?_⟩
      rw [List.take_length, ht, List.flatten_append]
      simp
  · have en : n = vs.length := by omega
    subst en
    refine .inl ⟨⟨vs, seqA _, Nat.le_refl _⟩, ?_⟩
    rw [hlen, List.take_length]
    exact q _ _ (f.trans (Fr.new f.ok hD)) ⟨Dd, rfl, (msk_out (new_out f.ok hD)).trans upd_same⟩
theorem nd_addS {L : List Str} {x : Str} (h : L.Nodup) : (addS L x).Nodup := by
  unfold addS
  split
  · exact h
  · next hn => exact List.nodup_cons.mpr ⟨hn, h⟩
theorem nd_fold : ∀ (xs L : List Str), L.Nodup → (xs.foldl addS L).Nodup
  | [], _, h => h
  | x :: xs, L, h => nd_fold xs (addS L x) (nd_addS h)
theorem nd_addAll (xs : List Str) : (addAll xs).Nodup := nd_fold xs [] List.nodup_nil
/-- a comprehension over one of several lists -/
theorem en_exX {α : Type} {P : α → Prop} {rs : α → List Rep} {h : α → HRep} {vs : List Nat} (src : SRCX b hs es wi P rs) (k : ∀ x, P x → ∀ (S : List Addr) (wi' : TI), SRC1 b S hs es wi' (rs x) → EN1 b S hs es (tLc wi' g tt te vs) (h x)) : EN b hs es (tLc wi g tt te vs) (hEx P h) := fun S σ H s Q q => by
  refine src S σ H s _ fun x px J H1 G Y f1 g1 w1 y1 => ?_
  exact k x px S (fun σ0 H0 Rk => ∀ (J : It) (H1 : Hp) (G : Rep) (Y : Nat → Hp → V → Hp → Prop), Fr b S H0 H1 → G.P .non (msk S H1) → Walk J (rs x).length (fun H => ∃ S', G.P .non (msk S' H)) Y →
    (∀ (S' : List Addr) (i : Nat) (R : Rep) (Hx : Hp) (v : V) (Hy : Hp), (rs x)[i]? = some R → HpOk b S' Hx → G.P .non (msk S' Hx) → Y i Hx v Hy → Fr b S' Hx Hy ∧ R.P v (msk S' Hy)) → Rk J H1)
    (fun σ H s Rk q J H1 G Y f g w y => q J H1 G Y f g w y) σ H s Q (fun p o H' f ho hh => q p o H' f ho ⟨x, px, hh⟩) J H1 G Y f1 g1 w1 y1
/-- pairs of texts -/
abbrev rPair (p : Str × Str) : Rep := rT [rStr p.1, rStr p.2]
def keyS (H : Hp) (v : V) : Str × Str := match v with
  | .ref t => match H t with
    | some (.tup [.str a, .str b]) => (a, b)
    | _ => (⟨#[]⟩, ⟨#[]⟩)
  | _ => (⟨#[]⟩, ⟨#[]⟩)
theorem keyS_pair {c : Str × Str} {v : V} (h : (rPair c).P v (msk S H)) : (∃ t, v = .ref t ∧ H t = some (.tup [.str c.1, .str c.2])) ∧ keyS H v = c := by
  obtain ⟨a, vs, e, ha, _, al⟩ := rT_at h
  obtain ⟨x, y, rfl, hx, hy⟩ := all_2 al
  rw [show x = _ from hx, show y = _ from hy] at ha
  refine ⟨⟨a, e, ha⟩, ?_⟩
  rw [e]
  unfold keyS
  simp only [ha]
theorem all_keysS : ∀ {cs : List (Str × Str)} {vs : List V}, All2 (cs.map rPair) vs (msk S H) → vs.map (keyS H) = cs
  | [], [], _ => rfl
  | c :: cs, v :: vs, h => by
    show keyS H v :: vs.map (keyS H) = c :: cs
    rw [(keyS_pair h.1).2, all_keysS h.2]
  | [], _ :: _, h => h.elim
  | _ :: _, [], h => h.elim
theorem all_of_memS {M : Hp} {k : V → Str × Str} : ∀ {vs : List V}, (∀ v ∈ vs, (rPair (k v)).P v M) → All2 ((vs.map k).map rPair) vs M
  | [], _ => True.intro
  | v :: vs, h => ⟨h v List.mem_cons_self, all_of_memS fun w hw => h w (List.mem_cons_of_mem _ hw)⟩
theorem en_sortedSS {cs : List (Str × Str)} (ha : EV b hs es ta R) (la : LAt b hs (cs.map rPair) R) : EN b hs es (tCB (rSortedSS K) (tCons ta tNil)) (hEx (fun ds : List (Str × Str) => ds.Perm cs) fun ds => hL (ds.map rPair)) := en_cb (ea_cons ha ea_nil) fun S H vs k ho al Q q => by
  obtain ⟨x, rfl, hx⟩ := all1 al
  obtain ⟨a, ws, e, ha, aw⟩ := la S H x ho hx
  have hv : ∀ v ∈ ws, ∃ c, (rPair c).P v (msk S H) := fun v hv => by
    obtain ⟨r, hr, p⟩ := aw.mem v hv
    obtain ⟨c, _, e⟩ := List.mem_map.mp hr
    exact ⟨c, e ▸ p⟩
  refine ⟨a, ws, by rw [e], sq_of ha, fun v hm => ?_, fun ys p pm hp => ?_⟩
  · obtain ⟨c, hc⟩ := hv v hm
    obtain ⟨⟨t, h1, h2⟩, _⟩ := keyS_pair hc
    exact ⟨t, c.1, c.2, h1, h2⟩
  · refine en_new (h := hEx (fun ds : List (Str × Str) => ds.Perm cs) fun ds => hL (ds.map rPair)) k (Fr.refl k) ⟨ys.map (keyS H), ?_, ys, rfl, all_of_memS fun v hm => ?_⟩ q p hp
    · have := pm.map (keyS H)
      rw [all_keysS aw] at this
      exact this
    · obtain ⟨c, hc⟩ := hv v (pm.mem_iff.mp hm)
      rw [(keyS_pair hc).2]
      exact hc
end
end L2.K9A
end
section
set_option Elab.async false
set_option linter.all false
set_option maxRecDepth 100000
set_option maxHeartbeats 2000000
namespace L2.K9A
open PySem PySem.Spec PyProof.Rows L2 L2.K9R
section
variable {b : Option Addr} {S : List Addr} {hs : Hs} {es : Es} {σ : St} {H H1 H' : Hp} {ta tb tc te ti to tk tv : TE} {R Ra Rb Rc : Rep} {K : PySem.W.Frag} {h : HRep} {B : Bs} {D : Ends} {T : L2.St → Hp → Prop} {tz : TS}
theorem All2.set {M : Hp} {v : V} : ∀ {rs : List Rep} {vs : List V} (j : Nat), All2 rs vs M → R.P v M → All2 (rs.set j R) (vs.set j v) M
  | [], [], _, _, _ => True.intro
  | _ :: _, _ :: _, 0, h, r => ⟨r, h.2⟩
  | _ :: _, _ :: _, j + 1, h, r => ⟨h.1, All2.set j h.2 r⟩
  | [], _ :: _, _, h, _ => h.elim
  | _ :: _, [], _, h, _ => h.elim
/-- xs[j] = e, xs one of the places -/
theorem w_setL {p : Addr} {n j : Nat} {rs : List Rep} (hn : hs[n]? = some (p, hL rs)) (hv : EV B.b hs es te R) (ho : EV B.b hs es to (rAt p)) (hi : EV B.b hs es ti (rInt (j : Int))) (hj : j < rs.length) (k : N B (hs.set n (p, hL (rs.set j R))) es D.nx) : N B hs es (tAsg te (gSub to ti rSetL) D) := fun σ H s =>
  hv _ σ H s.e _ fun v H1 f1 r1 => ho _ σ H1 (s.mono f1).e _ fun x H2 f2 r2 => hi _ σ H2 ((s.mono f1).mono f2).e _ fun y H3 f3 r3 => by
    have s3 := ((s.mono f1).mono f2).mono f3
    obtain ⟨_, _, o, hpo, vs, eo, al⟩ := s3.e.ht _ (List.mem_of_getElem? hn)
    subst eo
    refine ⟨p, vs, (j : Int), j, r2, r3, hpo, ?_, k _ _ (s3.put hn ⟨_, rfl, All2.set j al (R.up (f2.dat.trans f3.dat) r1)⟩)⟩
    unfold ixN
    have : j < vs.length := by rw [al.len]; exact hj
    rw [if_pos (by omega), if_pos (by omega)]
    simp
abbrev hB (xs : List Int) (i r m n : Int) : HRep := hL [rL (xs.map rInt), rInt i, rInt r, rInt m, rInt n]
structure BagOk (xs : List Int) (i r m n : Int) : Prop where
  l : xs.length ≤ 63
  i0 : 0 ≤ i
  r0 : 0 ≤ r
  m0 : 0 ≤ m
  m1 : m < 2147483323
  n0 : 0 ≤ n
def Bs.open_ (B : Bs) (a : Addr) : Bs := ⟨none, B.S0.filter fun p => decide (p ≠ a), fun p => if p = a then none else B.H0 p, B.gs⟩
theorem mem_open {B : Bs} {a p : Addr} : p ∈ (B.open_ a).S0 ↔ p ∈ B.S0 ∧ p ≠ a := by
  unfold Bs.open_
  rw [List.mem_filter, decide_eq_true_eq]
theorem msk_open {B : Bs} {a : Addr} {H : Hp} (ha : a ∈ B.S0) : msk (a :: (B.open_ a).S0) H = msk B.S0 H := msk_congr fun p => by
  rw [List.mem_cons, mem_open]
  constructor
  · intro h
    by_cases e : p = a
    · exact .inl e
    · exact .inr ⟨h, e⟩
  · rintro (e | h)
    · rw [e]; exact ha
    · exact h.1
theorem msk_open0 {B : Bs} {a : Addr} (ha : a ∈ B.S0) : msk (B.open_ a).S0 (B.open_ a).H0 = msk B.S0 B.H0 := by
  funext p
  unfold msk
  by_cases e : p = a
  · subst e
    rw [if_pos ha, if_neg fun q => (mem_open.mp q).2 rfl]
    show (if p = p then none else _) = none
    rw [if_pos rfl]
  · by_cases hp : p ∈ B.S0
    · rw [if_pos hp, if_pos (mem_open.mpr ⟨hp, e⟩)]
    · rw [if_neg hp, if_neg fun q => hp (mem_open.mp q).1]
      show (if p = a then none else _) = _
      rw [if_neg e]
theorem n_open {a : Addr} (hb : B.b = some a) (k : a ∈ B.S0 → ∀ (xs : List Int) (i r m n : Int), BagOk xs i r m n → N (B.open_ a) [(a, hB xs i r m n)] es T) : N B [] es T := fun σ H s => by
  have ha : a ∈ B.S0 := s.bin a hb
  obtain ⟨c, xs, i, r, m, n, h1, h2, b1, b2, b3, b4, b5, b6⟩ := (s.e.ok.bag a hb).2
  have eS : B.S [] = B.S0 := rfl
  have em : msk ((B.open_ a).S [(a, hB xs i r m n)]) H = msk B.S0 H := msk_open ha
  refine k ha xs i r m n ⟨b1, b2, b3, b4, b5, b6⟩ σ H ⟨⟨⟨fun p hp => ?_, fun _ e => (by cases e)⟩, ?_, fun x hx => ?_⟩, ?_, ?_, ?_, ?_, fun _ e => (by cases e), ?_⟩
  · rcases List.mem_cons.mp hp with e | hp
    · rw [e]
      exact s.e.ok.ob a ha
    · exact s.e.ok.ob p (mem_open.mp hp).1
  · rw [em]
    exact s.e.sl
  · rw [List.mem_singleton.mp hx]
    refine ⟨List.mem_cons_self, fun e => (by cases e), _, h1, ?_⟩
    rw [em]
    exact ⟨_, rfl, ⟨c, _, rfl, h2, _, rfl, All2.of_map _ _ (fun _ => rfl) xs⟩, rfl, rfl, rfl, rfl, True.intro⟩
  · exact List.nodup_cons.mpr ⟨fun q => (nomatch q), List.nodup_nil⟩
  · intro p hp
    rw [List.mem_singleton.mp hp]
    exact fun q => (mem_open.mp q).2 rfl
  · rw [em, msk_open0 ha]
    exact s.dat
  · intro p hp _
    obtain ⟨h3, h4⟩ := mem_open.mp hp
    show H p = if p = a then none else B.H0 p
    rw [if_neg h4]
    exact s.keep p h3 fun e => h4 (by rw [hb] at e; exact (Option.some.inj e).symm)
  · rw [em]
    exact s.gh
theorem w_retB {a : Addr} {xs : List Int} {i r m n : Int} (hb : B.b = some a) (ha : a ∈ B.S0) (ok : BagOk xs i r m n) (e : EV none [(a, hB xs i r m n)] es te R) (k : ∀ v H', Fr B.b B.S0 B.H0 H' → R.P v (msk B.S0 H') → D.rt v H') : N (B.open_ a) [(a, hB xs i r m n)] es (tRet te D) := fun σ H s =>
  e _ σ H s.e _ fun v H1 f rv => by
    have s1 := s.mono f
    have em : msk ((B.open_ a).S [(a, hB xs i r m n)]) H1 = msk B.S0 H1 := msk_open ha
    obtain ⟨_, _, o, ho, vs, eo, al⟩ := s1.e.ht _ List.mem_cons_self
    rw [em] at al rv
    obtain ⟨v1, r1, rfl⟩ : ∃ v1 r1, vs = v1 :: r1 := by
      cases vs with
      | nil => exact al.elim
      | cons x y => exact ⟨x, y, rfl⟩
    obtain ⟨w1, w2, w3, rfl, e1, e2, e3⟩ : ∃ w1 w2 w3, r1 = w1 :: w2 :: w3 ∧ w1 = V.int i ∧ w2 = V.int r ∧ All2 [rInt m, rInt n] w3 (msk B.S0 H1) := by
      cases r1 with
      | nil => exact al.2.elim
      | cons x y =>
        cases y with
        | nil => exact al.2.2.elim
        | cons z w => exact ⟨x, z, w, rfl, al.2.1, al.2.2.1, al.2.2.2⟩
    obtain ⟨u1, u2, rfl, e4, e5⟩ := all_2 e3
    obtain ⟨c, ws, ec, hc, _, aw⟩ : ∃ c ws, v1 = .ref c ∧ (msk B.S0 H1) c = some (.lst ws) ∧ True ∧ All2 (xs.map rInt) ws (msk B.S0 H1) := by
      obtain ⟨c, o, ec, hc, ws, eo2, aw⟩ := al.1
      subst eo2
      exact ⟨c, ws, ec, hc, True.intro, aw⟩
    have ew : ws = xs.map V.int := All2.consts V.int aw
    subst ew ec e1 e2
    rw [show u1 = V.int m from e4, show u2 = V.int n from e5] at eo
    subst eo
    refine k v H1 ⟨⟨fun p hp => ?_, fun a' ea => ?_⟩, ?_, fun p hp np => ?_⟩ rv
    · by_cases ep : p = a
      · rw [ep]
        exact ⟨_, ho, rfl⟩
      · exact s1.e.ok.ob p (List.mem_append_right _ (mem_open.mpr ⟨hp, ep⟩))
    · rw [hb] at ea
      cases ea
      exact ⟨ha, c, xs, i, r, m, n, ho, hc, ok.l, ok.i0, ok.r0, ok.m0, ok.m1, ok.n0⟩
    · have := s1.dat
      rw [em, msk_open0 ha] at this
      exact this
    · have np' : p ≠ a := fun e => np (by rw [hb, e])
      have := s1.keep p (mem_open.mpr ⟨hp, np'⟩) (fun e => by cases e)
      rw [this]
      show (if p = a then none else B.H0 p) = B.H0 p
      rw [if_neg np']
theorem ev_ib {p : Addr} {rs : List Rep} {j : Nat} (hm : (p, hL rs) ∈ hs) (ha : EV b hs es ta (rAt p)) (hi : EV b hs es ti (rInt (j : Int))) (hr : rs[j]? = some R) : EV b hs es (tOp (rIxL K) ta ti) R := ev_opV ha hi (rv_ixL (lat_hot hm) (by omega) (by rw [Int.toNat_natCast]; exact hr))
end
end L2.K9A
end
section
set_option Elab.async false
set_option linter.all false
set_option maxRecDepth 100000
set_option maxHeartbeats 4000000
namespace K9W
open PySem PySem.Spec PyProof.Rows L2 L2.K9R L2.K9A K9 K9M
open C8 (Cal Met pe_c pe_mt pe_mt0 InsC call_isC pe_gc)
section
variable {P : Program} {w : World} {K : PySem.W.Frag} {hp : Heap} {mg : Str → Option Value} {base : Heap}

/-! the bag -/
def CT_L_law_draw : Option Addr → List Rep → Rep → Prop := fun b rs R => ∃ (a : Addr) (n : Int), b = some a ∧ 1 ≤ n ∧ n < 1073741824 ∧ rs = [rAt a, rInt n] ∧ R = rZ (fun k => 0 ≤ k ∧ k < n)
theorem len_L_law_draw : ∀ b rs R, CT_L_law_draw b rs R → rs.length = 2 := fun _ _ _ ⟨_, _, _, _, _, e, _⟩ => by rw [e]; rfl
theorem fm_lt {i n : Int} (h : 1 ≤ n) : 0 ≤ i.fmod n ∧ i.fmod n < n := by
  rw [Int.fmod_eq_emod_of_nonneg i (by omega : (0 : Int) ≤ n)]
  exact ⟨Int.emod_nonneg i (by omega), Int.emod_lt_of_pos i (by omega)⟩
theorem fd_nn {i n : Int} (h0 : 0 ≤ i) (h : 1 ≤ n) : 0 ≤ i.fdiv n := by
  rw [Int.fdiv_eq_ediv_of_nonneg i (by omega : (0 : Int) ≤ n)]
  exact Int.ediv_nonneg h0 (by omega)
theorem sc_L_law_draw : FnScope ["_law_bag_here", "_law_many", "_law_cell", "_law_digit", "_law_seed"] ["_law_bag_here", "_law_many"] K9H.d_L_law_draw.scope := ⟨rfl, rfl, rfl, by decide +kernel, rfl, by decide +kernel, by decide +kernel⟩
theorem c_L_law_draw (X : K.In hp) (G : hp.Ns mainGlobals mg) (c : K9H.Sy K) : Cal P w K mg base 1 "_law_draw" (SpD CT_L_law_draw) [] := by
  obtain ⟨fd, F⟩ := c.def_ 31 (d := K9H.d_L_law_draw) rfl
  have F : FunD K K9H.d_L_law_draw.name K9H.d_L_law_draw.qual K9H.d_L_law_draw.params K9H.d_L_law_draw.body K9H.d_L_law_draw.scope [] [] _ fd := F
  have T := txt X G c
  have sc := sc_L_law_draw
  refine calD F (He.glo_ok X G (c.fact 19 (f := .glo "_law_draw") rfl)) (bindsD F fun _ _ _ _ _ _ us hl => match us, hl with | [_, _], _ => rfl) (fnD (ps := ["_law_bag_here", "_law_many"]) F sc CT_L_law_draw ?_ ?_)
  case refine_1 => exact len_L_law_draw
  refine fun cdv A outer s H E hr => ⟨_, (pss_cons (ps_asg (pe_op op_add (pe_ix (ix_listK (K := K) rfl) (pv 0) pe_int (fun _ _ => rfl)) pe_int) (pg_sub (pv 0) pe_int set_list (fun _ => rfl)))
  (pss_cons (ps_if (PW.pt (pw_and (pt_cmpR op_eq (pe_ix (ix_listK (K := K) rfl) (pv 0) pe_int (fun _ _ => rfl)) pe_int (nomark _)) (pw_and1 (pt_cmpR op_lt (pe_ix (ix_listK (K := K) rfl) (pv 0) pe_int (fun _ _ => rfl)) (pe_callB (id := "len") (call_lenK (K := K) rfl) (by rfl) T.z_len (by decide +kernel) (pa_cons (pe_ix (ix_listK (K := K) rfl) (pv 0) pe_int (fun _ _ => rfl)) pa_nil)) (nomark _)))))
  (pss_cons (ps_set (i := 2) sc.nd rfl (by first | exact Or.inl rfl | exact Or.inr rfl) (pe_callB (id := "abs") call_absK (by rfl) T.z_abs (by decide +kernel) (pa_cons (pe_ix (ix_listK (K := K) rfl) (pe_ix (ix_listK (K := K) rfl) (pv 0) pe_int (fun _ _ => rfl)) (pe_ix (ix_listK (K := K) rfl) (pv 0) pe_int (fun _ _ => rfl)) (fun _ _ => rfl)) pa_nil)))
  (pss_cons (ps_asg (pe_op op_add (pe_ix (ix_listK (K := K) rfl) (pv 0) pe_int (fun _ _ => rfl)) pe_int) (pg_sub (pv 0) pe_int set_list (fun _ => rfl)))
  (pss_one (ps_if (pt_cmpR op_ge (pv 2) (pe_op op_pow pe_int pe_int) (nomark _))
  (pss_one (ps_asg (pv 2) (pg_sub (pv 0) pe_int set_list (fun _ => rfl))))
  (pss_one (ps_asg (pe_op op_modN (pe_callTy (T := "int") call_intK (by rfl) T.z_int (by decide +kernel) (pa_cons (pe_op op_add (pe_op op_add (pe_op op_mul (pe_ix (ix_listK (K := K) rfl) (pv 0) pe_int (fun _ _ => rfl)) pe_int) (pe_op op_mul (pe_op op_modN (pe_callTy (T := "int") call_intK (by rfl) T.z_int (by decide +kernel) (pa_cons (pv 2) pa_nil)) pe_int) pe_int)) pe_int) pa_nil)) pe_int) (pg_sub (pv 0) pe_int set_list (fun _ => rfl))))))))
  pss_nil)
  (pss_cons (ps_if (pt_cmpR op_gt (pe_ix (ix_listK (K := K) rfl) (pv 0) pe_int (fun _ _ => rfl)) pe_int (nomark _))
  (pss_cons (ps_set (i := 3) sc.nd rfl (by first | exact Or.inl rfl | exact Or.inr rfl) (pe_op op_modN (pe_callTy (T := "int") call_intK (by rfl) T.z_int (by decide +kernel) (pa_cons (pe_ix (ix_listK (K := K) rfl) (pv 0) pe_int (fun _ _ => rfl)) pa_nil)) (pv 1)))
  (pss_cons (ps_asg (pe_op op_fdivN (pe_ix (ix_listK (K := K) rfl) (pv 0) pe_int (fun _ _ => rfl)) (pv 1)) (pg_sub (pv 0) pe_int set_list (fun _ => rfl)))
  (pss_one (ps_ret (pv 3)))))
  pss_nil)
  (pss_cons (ps_set (i := 4) sc.nd rfl (by first | exact Or.inl rfl | exact Or.inr rfl) (pe_ix (ix_listK (K := K) rfl) (pv 0) pe_int (fun _ _ => rfl)))
  (pss_cons (ps_asg (pe_op op_modN (pe_callTy (T := "int") call_intK (by rfl) T.z_int (by decide +kernel) (pa_cons (pe_op op_add (pe_op op_add (pe_op op_add (pe_op op_pow (pv 4) pe_int) (pe_op op_mul (pv 4) pe_int)) (pe_op op_mul (pe_ix (ix_listK (K := K) rfl) (pv 0) pe_int (fun _ _ => rfl)) pe_int)) pe_int) pa_nil)) pe_int) (pg_sub (pv 0) pe_int set_list (fun _ => rfl)))
  (pss_one (ps_ret (pe_op op_modN (pe_callTy (T := "int") call_intK (by rfl) T.z_int (by decide +kernel) (pa_cons (pe_op op_add (pe_op op_fdivN (pe_ix (ix_listK (K := K) rfl) (pv 0) pe_int (fun _ _ => rfl)) pe_int) (pe_op op_mul (pe_op op_modN (pe_callTy (T := "int") call_intK (by rfl) T.z_int (by decide +kernel) (pa_cons (pe_ix (ix_listK (K := K) rfl) (pv 0) pe_int (fun _ _ => rfl)) pa_nil)) pe_int) pe_int)) pa_nil)) (pv 1))))))))), fun B Q rs R hC hgs k => ?_⟩
  obtain ⟨a, many, hb, h1, h2, rfl, rfl⟩ := hC
  refine n_open hb fun ha xs i r m n ok => ?_
  -- behind the first if, whatever it did
  have rest : ∀ i r m n, BagOk xs i r m n → N (B.open_ a) [(a, hB xs i r m n)] [some (rAt a), some (rInt many), none, none, none]
      (tSeq (tIfS (tTest (tOp (rI0 fun i j => .bl (decide (j < i))) (tOp (rIxL K) (tVar 0) (tC (.int 2))) (tC (.int 0))))
        (tSeq (tAsg (tOp (rI (fun _ j => j ≠ 0) fun i j => .int (i.fmod j)) (tCB rInt1 (tCons (tOp (rIxL K) (tVar 0) (tC (.int 2))) tNil)) (tVar 1)) (gName 3))
          (tSeq (tAsg (tOp (rI CDivN fun i j => .int (i.fdiv j)) (tOp (rIxL K) (tVar 0) (tC (.int 2))) (tVar 1)) (gSub (tVar 0) (tC (.int 2)) rSetL)) (tRet (tVar 3)))) tNext)
      (tSeq (tAsg (tOp (rIxL K) (tVar 0) (tC (.int 3))) (gName 4))
      (tSeq (tAsg (tOp (rI (fun _ j => j ≠ 0) fun i j => .int (i.fmod j)) (tCB rInt1 (tCons (tOp (rI0 fun i j => .int (i + j)) (tOp (rI0 fun i j => .int (i + j)) (tOp (rI0 fun i j => .int (i + j)) (tOp (rI CPow fun i j => .int (i ^ j.toNat)) (tVar 4) (tC (.int 3)))
        (tOp (rI CMul fun i j => .int (i * j)) (tVar 4) (tC (.int 27611)))) (tOp (rI CMul fun i j => .int (i * j)) (tOp (rIxL K) (tVar 0) (tC (.int 4))) (tC (.int 1299709)))) (tC (.int 52361))) tNil)) (tC (.int 2147483323))) (gSub (tVar 0) (tC (.int 3)) rSetL))
      (tRet (tOp (rI (fun _ j => j ≠ 0) fun i j => .int (i.fmod j)) (tCB rInt1 (tCons (tOp (rI0 fun i j => .int (i + j)) (tOp (rI CDivN fun i j => .int (i.fdiv j)) (tOp (rIxL K) (tVar 0) (tC (.int 3))) (tC (.int 67)))
        (tOp (rI CMul fun i j => .int (i * j)) (tOp (rI (fun _ j => j ≠ 0) fun i j => .int (i.fmod j)) (tCB rInt1 (tCons (tOp (rIxL K) (tVar 0) (tC (.int 3))) tNil)) (tC (.int 7919))) (tC (.int 53)))) tNil)) (tVar 1))))) { nx := fun _ H' => Q .non H', rt := Q }) := by
    clear ok i r m n
    intro i r m n ok
    have gm := ok.m0
    have gm1 := ok.m1
    refine q_when (c := decide (0 < r)) (et_test (ev_opV (ev_ib (j := 2) List.mem_cons_self (ev_var rfl) ev_c rfl) ev_c rv_I0)) (fun hr => ?_) (fun hr => ?_)
    · have hr := of_decide_eq_true hr
      refine q_asg (R := rInt (r.fmod many)) (ev_opV (ev_cb (ea_cons (ev_ib (j := 2) List.mem_cons_self (ev_var rfl) ev_c rfl) ea_nil) rc_int) (ev_var rfl) (rv_I (by omega))) ?_
      refine w_seq (w_setL (n := 0) (j := 2) (R := rInt (r.fdiv many)) rfl (ev_opV (ev_ib (j := 2) List.mem_cons_self (ev_var rfl) ev_c rfl) (ev_var rfl) (rv_I ⟨by omega, by omega⟩)) (ev_var rfl) ev_c (by exact Nat.le_of_ble_eq_true rfl) ?_)
      dsimp only
      exact w_retB (i := i) (r := r.fdiv many) (m := m) (n := n) hb ha ⟨ok.l, ok.i0, fd_nn (by omega) h1, ok.m0, ok.m1, ok.n0⟩ (ev_z (ev_var rfl) (fm_lt h1)) k
    · refine q_asg (R := rInt m) (ev_ib (j := 3) List.mem_cons_self (ev_var rfl) ev_c rfl) ?_
      refine w_seq (w_setL (n := 0) (j := 3) (R := rInt ((m ^ (3 : Int).toNat + m * 27611 + n * 1299709 + 52361).fmod 2147483323)) rfl (ev_opV (ev_cb (ea_cons (ev_opV (ev_opV (ev_opV (ev_opV (ev_var rfl) ev_c (rv_I ⟨by decide, by decide, by omega⟩)) (ev_opV (ev_var rfl) ev_c (rv_I (Or.inr (by decide)))) rv_I0) (ev_opV (ev_ib (j := 4) List.mem_cons_self (ev_var rfl) ev_c rfl) ev_c (rv_I (Or.inr (by decide)))) rv_I0) ev_c rv_I0) ea_nil) rc_int) ev_c (rv_I (by decide))) (ev_var rfl) ev_c (by exact Nat.le_of_ble_eq_true rfl) ?_)
      dsimp only
      have g := fm_lt (i := m ^ (3 : Int).toNat + m * 27611 + n * 1299709 + 52361) (n := 2147483323) (by decide)
      generalize (m ^ (3 : Int).toNat + m * 27611 + n * 1299709 + 52361).fmod 2147483323 = m2 at g
      exact w_retB (i := i) (r := r) (m := m2) (n := n) hb ha ⟨ok.l, ok.i0, ok.r0, g.1, g.2, ok.n0⟩ (ev_z (ev_opV (ev_cb (ea_cons (ev_opV (ev_opV (ev_ib (j := 3) List.mem_cons_self (ev_var rfl) ev_c rfl) ev_c (rv_I ⟨by decide, by decide⟩)) (ev_opV (ev_opV (ev_cb (ea_cons (ev_ib (j := 3) List.mem_cons_self (ev_var rfl) ev_c rfl) ea_nil) rc_int) ev_c (rv_I (by decide))) ev_c (rv_I (Or.inr (by decide)))) rv_I0) ea_nil) rc_int) (ev_var rfl) (rv_I (by omega))) (fm_lt h1)) k
  refine w_seq (w_setL (n := 0) (j := 4) (R := rInt (n + 1)) rfl (ev_opV (ev_ib (j := 4) List.mem_cons_self (ev_var rfl) ev_c rfl) ev_c rv_I0) (ev_var rfl) ev_c (by exact Nat.le_of_ble_eq_true rfl) ?_)
  dsimp only
  show N _ [(a, hB xs i r m (n + 1))] _ _
  have okn : BagOk xs i r m (n + 1) := ⟨ok.l, ok.i0, ok.r0, ok.m0, ok.m1, by have := ok.n0; omega⟩
  refine q_when (c := decide (r = 0) && decide (i < ((xs.length : Nat) : Int))) (et_to (et_and (et_test (ev_opV (ev_ib (j := 2) List.mem_cons_self (ev_var rfl) ev_c rfl) ev_c (rv_eq rfl))) fun _ => et_test (ev_opV (ev_ib (j := 1) List.mem_cons_self (ev_var rfl) ev_c rfl) (ev_lenM (ev_ib (j := 0) List.mem_cons_self (ev_var rfl) ev_c rfl) lat_data) rv_I0)) ?_) (fun hc => ?_) (fun hc => ?_)
  · congr 1
    rw [decide_eq_decide]
    exact ⟨fun z => by injection z, fun z => by rw [z]⟩
  · rw [Bool.and_eq_true] at hc
    have hi := of_decide_eq_true hc.2
    have i0 := ok.i0
    have hx : xs[i.toNat]? = some (xs[i.toNat]'(by omega)) := List.getElem?_eq_getElem (by omega)
    generalize xs[i.toNat]'(by omega) = x at hx
    refine q_asg (R := rInt (if x < 0 then -x else x)) (ev_cb (ea_cons (ev_opV (R := rInt x) (ev_ib (j := 0) List.mem_cons_self (ev_var rfl) ev_c rfl) (ev_ib (j := 1) List.mem_cons_self (ev_var rfl) ev_c rfl) (rv_ixL lat_data i0 (by rw [List.getElem?_map, hx]; rfl))) ea_nil) rc_abs) ?_
    have hcell : 0 ≤ (if x < 0 then -x else x) := by split <;> omega
    generalize (if x < 0 then -x else x) = cell at hcell
    refine w_seq (w_setL (n := 0) (j := 1) (R := rInt (i + 1)) rfl (ev_opV (ev_ib (j := 1) List.mem_cons_self (ev_var rfl) ev_c rfl) ev_c rv_I0) (ev_var rfl) ev_c (by exact Nat.le_of_ble_eq_true rfl) ?_)
    dsimp only
    refine w_if (c := decide ((10 : Int) ^ (18 : Int).toNat ≤ cell)) (et_test (ev_opV (ev_var rfl) (ev_opV ev_c ev_c (rv_I ⟨by decide, by decide, by decide⟩)) rv_I0)) (fun hbig => ?_) (fun hbig => ?_)
    · refine w_setL (n := 0) (j := 2) (R := rInt cell) rfl (ev_var rfl) (ev_var rfl) ev_c (by exact Nat.le_of_ble_eq_true rfl) ?_
      dsimp only
      exact n_less (by exact ⟨rfl, rfl, True.intro⟩) (rest (i + 1) cell m (n + 1) ⟨ok.l, by omega, hcell, ok.m0, ok.m1, okn.n0⟩)
    · refine w_setL (n := 0) (j := 3) (R := rInt ((m * 40993 + cell.fmod 2147483111 * 769 + 41).fmod 2147483323)) rfl (ev_opV (ev_cb (ea_cons (ev_opV (ev_opV (ev_opV (ev_ib (j := 3) List.mem_cons_self (ev_var rfl) ev_c rfl) ev_c (rv_I (Or.inr (by decide)))) (ev_opV (ev_opV (ev_cb (ea_cons (ev_var rfl) ea_nil) rc_int) ev_c (rv_I (by decide))) ev_c (rv_I (Or.inr (by decide)))) rv_I0) ev_c rv_I0) ea_nil) rc_int) ev_c (rv_I (by decide))) (ev_var rfl) ev_c (by exact Nat.le_of_ble_eq_true rfl) ?_
      dsimp only
      have g := fm_lt (i := m * 40993 + cell.fmod 2147483111 * 769 + 41) (n := 2147483323) (by decide)
      exact n_less (by exact ⟨rfl, rfl, True.intro⟩) (rest (i + 1) r _ (n + 1) ⟨ok.l, by omega, ok.r0, g.1, g.2, okn.n0⟩)
  · exact rest i r m (n + 1) okn

end
end K9W
end
section
set_option Elab.async false
set_option linter.all false
set_option maxRecDepth 100000
set_option maxHeartbeats 2000000
namespace L2.K9A
open PySem PySem.Spec PyProof.Rows L2 L2.K9R
section
variable {b : Option Addr} {S : List Addr} {hs : Hs} {es : Es} {σ : St} {H H1 H' : Hp} {ta tb tc te ti to tk tv : TE} {R Ra Rb Rc : Rep} {K : PySem.W.Frag} {h : HRep} {B : Bs} {D : Ends} {T : L2.St → Hp → Prop} {tz : TS} {tar : TA}
/-- what says nothing of the heap -/
def Flat (R : Rep) : Prop := ∀ v M M', R.P v M → R.P v M'
theorem flat_c {v : V} : Flat (rC v) := fun _ _ _ h => h
theorem flat_ex {α : Type} {P : α → Prop} {f : α → Rep} (h : ∀ x, P x → Flat (f x)) : Flat (rEx P f) := fun v M M' q => by
  obtain ⟨x, p, r⟩ := q
  exact ⟨x, p, h x p v M M' r⟩
/-- a call that is handed one of the places, to read: f(x, place) -/
theorem ev_callH {C : Option Addr → List Rep → Rep → Prop} {i j : Nat} {p : Addr} {E : XK} (hi : es[i]? = some (some Ra)) (fa : Flat Ra) (hj : es[j]? = some (some (rAt p))) (hp : (p, h) ∈ hs) (ni : ∀ (o : HO) (M : Hp) (xs : List Int), h.P o M → o ≠ .lst (xs.map V.int))
    (fr : Flat R) (hc : C b [Ra, rOf h] R) : EV b hs es (tCall (SpD C) [] E (tCons (tVar i) (tCons (tVar j) tNil))) R := fun S σ H s Q q => by
  obtain ⟨v, e1, r1⟩ := s.sl.at_ i _ hi
  obtain ⟨w, e2, r2⟩ := s.sl.at_ j _ hj
  refine ⟨v, e1, w, e2, ?_⟩
  obtain ⟨hS, nb, o, ho, hh⟩ := s.ht _ hp
  have r2 : w = .ref p := r2
  have hS : p ∈ S := hS
  have ho : H p = some o := ho
  have hh : h.P o (msk S H) := hh
  have nb : b ≠ some p := nb
  have sub : ∀ q, q ∈ S.filter (fun q => decide (q ≠ p)) → q ∈ S := fun q hq => (List.mem_filter.mp hq).1
  have up : ∀ {H : Hp}, Same (msk S H) (msk (S.filter fun q => decide (q ≠ p)) H) := msk_sub sub
  have npS : p ∉ S.filter (fun q => decide (q ≠ p)) := fun q => by
    have := (List.mem_filter.mp q).2
    simp at this
  refine ⟨S.filter fun q => decide (q ≠ p), b, [Ra, rOf h], R, ⟨fun q hq => s.ok.ob q (sub q hq), fun a ha => ⟨?_, (s.ok.bag a ha).2.up up⟩⟩, ⟨fa _ _ _ r1, ⟨p, o, r2, (msk_out npS).trans ho, h.up up hh⟩, True.intro⟩, hc, fun u H' f ru => ?_⟩
  · refine List.mem_filter.mpr ⟨(s.ok.bag a ha).1, ?_⟩
    rw [decide_eq_true_eq]
    exact fun e => nb (by rw [ha, e])
  · have hp' : H' p = some o := msk_same _ _ (f.dat p o ((msk_out npS).trans ho))
    have hh' : h.P o (msk (S.filter fun q => decide (q ≠ p)) H') := h.up f.dat (h.up up hh)
    refine q u H' ⟨⟨fun z hz => ?_, fun a ha => ?_⟩, fun z oz ez => ?_, fun z hz nz => ?_⟩ (fr _ _ _ ru)
    · by_cases e : z = p
      · rw [e]
        exact ⟨o, hp', h.no hh⟩
      · exact f.ok.ob z (List.mem_filter.mpr ⟨hz, by simpa using e⟩)
    · obtain ⟨h1, c, xs, i1, r1, m1, n1, q1, q2, q3⟩ := f.ok.bag a ha
      refine ⟨sub _ h1, c, xs, i1, r1, m1, n1, q1, ?_, q3⟩
      have hcp : c ≠ p := fun e => by
        rw [e] at q2
        have := msk_same _ _ q2
        rw [hp'] at this
        exact ni o _ xs hh' (Option.some.inj this)
      have hcS : c ∉ S := fun hz => by
        have : c ∈ S.filter (fun q => decide (q ≠ p)) := List.mem_filter.mpr ⟨hz, by simpa using hcp⟩
        unfold msk at q2
        rw [if_pos this] at q2
        cases q2
      rw [msk_out hcS]
      exact msk_same _ _ q2
    · have hzS : z ∉ S := fun hz => by
        unfold msk at ez
        rw [if_pos hz] at ez
        cases ez
      have ez2 : H z = some oz := msk_same _ _ ez
      rw [msk_out hzS]
      exact msk_same _ _ (f.dat z oz ((msk_out fun hz => hzS (sub _ hz)).trans ez2))
    · by_cases e : z = p
      · rw [e, hp', ho]
      · exact f.hot z (List.mem_filter.mpr ⟨hz, by simpa using e⟩) nz
/-- a text's part -/
theorem ev_sliceS {z : Str} {tl th : TO} {Pl Ph : Option Int → Prop} {P : Str → Prop} (ha : EV b hs es ta (rStr z)) (hz : z.length ≤ 100000) (hl : EO b hs es tl Pl) (hh : EO b hs es th Ph) (hres : ∀ lo hi, Pl lo → Ph hi → P (cutS z lo hi)) : EV b hs es (tSl rSlS ta tl th) (rEx P rStr) := fun S σ H s Q q =>
  ha S σ H s _ fun x H1 f1 r1 => hl S σ H1 (s.mono f1) _ fun lo H2 f2 p2 => hh S σ H2 ((s.mono f1).mono f2) _ fun hi H3 f3 p3 =>
    ⟨z, r1, Nat.le_trans hz (by decide), q _ H3 ((f1.trans f2).trans f3) ⟨_, hres lo hi p2 p3, rfl⟩⟩
theorem ev_sliceSX {Pz : Str → Prop} {tl th : TO} {Pl Ph : Option Int → Prop} {P : Str → Prop} (ha : EV b hs es ta (rEx Pz rStr)) (hz : ∀ z, Pz z → z.length ≤ 100000) (hl : EO b hs es tl Pl) (hh : EO b hs es th Ph) (hres : ∀ z lo hi, Pz z → Pl lo → Ph hi → P (cutS z lo hi)) : EV b hs es (tSl rSlS ta tl th) (rEx P rStr) := fun S σ H s Q q =>
  ha S σ H s _ fun x H1 f1 r1 => hl S σ H1 (s.mono f1) _ fun lo H2 f2 p2 => hh S σ H2 ((s.mono f1).mono f2) _ fun hi H3 f3 p3 => by
    obtain ⟨z, pz, r1⟩ := r1
    exact ⟨z, r1, Nat.le_trans (hz z pz) (by decide), q _ H3 ((f1.trans f2).trans f3) ⟨_, hres z lo hi pz p2 p3, rfl⟩⟩
theorem eo_var {P : Int → Prop} (ha : EV b hs es ta (rZ P)) : EO b hs es (tPart ta) (fun o => ∃ i, o = some i ∧ P i) := eo_some ha
/-- range(n), n one of several -/
theorem src_rangeX {P : Int → Prop} (ha : EV b hs es ta (rZ P)) (hP : ∀ n, P n → -(2 ^ 62) ≤ n ∧ n < 2 ^ 62) : SRCX b hs es (iRng1 (tCons ta tNil)) P (fun n => (List.range n.toNat).map fun (i : Nat) => rInt (i : Int)) := fun S σ H s Rk q => ha S σ H s _ fun v H1 f r => by
  obtain ⟨n, pn, r⟩ := r
  have src := src_range (b := b) (hs := []) (es := [some (rInt n)]) (n := n) (tar := tCons (tVar 0) tNil) (ea_cons (ev_var rfl) ea_nil) (hP n pn).2 (hP n pn).1
  have st : SatE b S [] [some (rInt n)] [some v] H1 := ⟨f.ok, ⟨rfl, fun i R e => by
    cases i with
    | zero =>
      have e1 : rInt n = R := Option.some.inj (Option.some.inj e)
      exact ⟨v, rfl, e1 ▸ r⟩
    | succ i => simp at e⟩, fun z hz => by cases hz⟩
  obtain ⟨v', ev, hv⟩ := src S [some v] H1 st Rk fun J H2 G Y f2 g w y => q n pn J H2 G Y (f.trans f2) g w y
  have e2 : v = v' := Option.some.inj (Option.some.inj ev)
  rw [e2]
  exact hv
/-- xs.insert(k, e), xs one of the places -/
theorem All2.insert {M : Hp} {v : V} {rs : List Rep} {vs : List V} (k : Nat) (h : All2 rs vs M) (r : R.P v M) : All2 (rs.take k ++ [R] ++ rs.drop k) (vs.take k ++ [v] ++ vs.drop k) M := All2.app (h.drop k) (All2.app (rs' := [R]) (vs' := [v]) ⟨r, True.intro⟩ (h.take k))
theorem w_insert {p : Addr} {n : Nat} {rs : List Rep} {P : Int → Prop} (hn : hs[n]? = some (p, hL rs)) (ho : EV B.b hs es to (rAt p)) (hi : EV B.b hs es ti (rZ P)) (ha : EV B.b hs es ta R) (hl : rs.length ≤ 100000) (hP : ∀ k, P k → 0 ≤ k ∧ k < 2 ^ 63)
    (k : ∀ i, P i → N B (hs.set n (p, hL (rs.take i.toNat ++ [R] ++ rs.drop i.toNat))) es D.nx) : N B hs es (tDrop (tBM K "list" rInsert to (tCons ti (tCons ta tNil))) D) := fun σ H s =>
  ho _ σ H s.e _ fun x H1 f1 r1 => by
    have s1 := s.mono f1
    obtain ⟨_, _, o, hpo, vs, eo, al⟩ := s1.e.ht _ (List.mem_of_getElem? hn)
    subst eo
    refine ⟨by rw [show x = V.ref p from r1]; exact Or.inl ⟨rfl, vs, sq_of hpo⟩, hi _ σ H1 s1.e _ fun y H2 f2 r2 => ha _ σ H2 (s1.mono f2).e _ fun v H3 f3 r3 => ?_⟩
    have s3 := (s1.mono f2).mono f3
    obtain ⟨_, _, o2, hpo2, vs2, eo2, al2⟩ := s3.e.ht _ (List.mem_of_getElem? hn)
    subst eo2
    obtain ⟨i, pi, ey⟩ := r2
    have ey : y = .int i := ey
    refine ⟨p, vs2, i, v, r1, by rw [ey], hpo2, by rw [al2.len]; exact Nat.lt_of_le_of_lt hl (by decide), (hP i pi).1, (hP i pi).2, ?_⟩
    exact k i pi _ _ (s3.put hn ⟨_, rfl, All2.insert _ al2 r3⟩)
/-- list(a text) -/
theorem en_listStr {z : Str} (ha : EV b hs es ta (rStr z)) (hz : z.length ≤ 100000) : EN b hs es (tCB rListStr (tCons ta tNil)) (hL (z.cps.toList.map fun c => rStr ⟨#[c]⟩)) := en_cb (ea_cons ha ea_nil) fun S H vs k _ al Q q => by
  obtain ⟨x, rfl, hx⟩ := all1 al
  refine ⟨z, by rw [show x = _ from hx], Nat.le_trans hz (by decide), en_new (h := hL (z.cps.toList.map fun c => rStr ⟨#[c]⟩)) k (Fr.refl k) ⟨_, rfl, ?_⟩ q⟩
  exact All2.of_map _ _ (fun _ => rfl) _
/-- sep.join(texts) -/
theorem ev_join {sep : Str} {P : List Str → Prop} {Q' : Str → Prop} (ho : EV b hs es to (rStr sep)) (ha : EV b hs es ta (rEx P fun ys => rL (ys.map rStr))) (hl : ∀ ys, P ys → (ys.map (·.length)).sum + ys.length * sep.length ≤ 16777216) (hr : ∀ ys, P ys → Q' (Txt.join sep ys)) : EV b hs es (tM1 (rJoin K) to ta) (rEx Q' rStr) := fun S σ H s Q q =>
  ho S σ H s _ fun x H1 f1 r1 => ⟨⟨sep, r1⟩, ha S σ H1 (s.mono f1) _ fun y H2 f2 r2 => by
    obtain ⟨ys, py, r2⟩ := r2
    obtain ⟨a, e, haa⟩ := rStrs_at r2
    exact ⟨sep, a, ys, r1, by rw [e], Or.inl (sq_of haa), hl ys py, q _ H2 (f1.trans f2) ⟨_, hr ys py, rfl⟩⟩⟩
/-- what is drawn of a list, a text -/
theorem rv_ixQL {rs : List Rep} {P : Int → Prop} (hP : ∀ i, P i → 0 ≤ i ∧ i.toNat < rs.length) : RV2 b hs (rIx K) (rL rs) (rZ P) (rEx (fun r : Rep => r ∈ rs) fun r => r) := rv_exR fun i pi S H x y k _ e1 e2 Q q => by
  obtain ⟨a, vs, e, ha, _, al⟩ := rL_at e1
  obtain ⟨h0, hl⟩ := hP i pi
  obtain ⟨v, hv, rv⟩ := al.get i.toNat (r := rs[i.toNat]) (List.getElem?_eq_getElem hl)
  exact Or.inl ⟨a, vs, i, v, e, e2, sq_of ha, atI_nat' h0 hv, q v H (Fr.refl k) ⟨_, List.getElem_mem hl, rv⟩⟩
theorem rv_ixQS {z : Str} {P : Int → Prop} (hz : z.length ≤ 100000) (hP : ∀ i, P i → 0 ≤ i ∧ i.toNat < z.length) : RV2 b hs (rIx K) (rStr z) (rZ P) (rEx (fun c : Nat => c ∈ z.cps.toList) fun c => rStr ⟨#[c]⟩) := rv_exR fun i pi S H x y k _ e1 e2 Q q => by
  obtain ⟨h0, hl⟩ := hP i pi
  have hl' : i.toNat < z.cps.toList.length := by rw [Array.length_toList]; exact hl
  exact Or.inr (Or.inr ⟨z, i, z.cps.toList[i.toNat], e1, e2, Nat.le_trans hz (by decide), atI_nat' h0 (List.getElem?_eq_getElem hl'), q _ H (Fr.refl k) ⟨_, List.getElem_mem hl', rfl⟩⟩)
/-- the script -/
def rScript (K : PySem.W.Frag) (ns : List Int) : Rep := ⟨fun v H => ∃ a, v = .ref a ∧ SqL K H a (ns.map V.int), fun s h => by
  obtain ⟨a, e, q⟩ := h
  exact ⟨a, e, s.seq q⟩⟩
theorem en_script {ns : List Int} {n : Nat} (ha : EV b hs es ta (rScript K ns)) (hn : ns.length ≤ n) {th : TO} (hh : EO b hs es th (fun o => o = some (n : Int))) : EN b hs es (tSl (rSlL K) ta tNoPart th) (hL (ns.map rInt)) := fun S σ H s Q q =>
  ha S σ H s _ fun x H1 f1 r1 => hh S σ H1 (s.mono f1) _ fun hi H2 f2 p2 => by
    obtain ⟨a, e, sq⟩ := r1
    subst p2
    have sq2 : SqL K H2 a (ns.map V.int) := (f2.dat.trans msk_same).seq sq
    refine ⟨a, _, e, sq2, en_new (h := hL (ns.map rInt)) s.ok (f1.trans f2) ⟨_, rfl, ?_⟩ q⟩
    have ec : cutV (ns.map V.int) none (some (n : Int)) = ns.map V.int := by
      unfold cutV
      rw [HT.sIx_none, HT.sIx_nat, List.length_map, List.drop_zero, Nat.sub_zero, List.take_of_length_le]
      rw [List.length_map]
      omega
    rw [ec]
    exact All2.of_map _ _ (fun _ => rfl) ns
theorem et_andX {tt tu : TT} {c : Bool} (h1 : ETd b hs es tt c) (h2 : c = true → ET b hs es tu (fun _ => True)) : ET b hs es (tAnd tt tu) (fun k => k = true → c = true) := fun S σ H s Q q => h1 S σ H s _ fun k H1 f e => by
  subst e
  cases k with
  | true => rw [if_pos rfl]; exact h2 rfl S σ H1 (s.mono f) Q fun k2 H2 f2 _ => q k2 H2 (f.trans f2) fun _ => rfl
  | false => rw [if_neg Bool.false_ne_true]; exact q _ H1 f fun h => h
/-- xs.append(e), e one of several -/
theorem w_appX {α : Type} {P : α → Prop} {f : α → Rep} {p : Addr} {n : Nat} {rs : List Rep} (hn : hs[n]? = some (p, hL rs)) (ho : EV B.b hs es to (rAt p)) (ha : EV B.b hs es ta (rEx P f)) (hl : rs.length ≤ 100000) (k : ∀ z, P z → N B (hs.set n (p, hL (rs ++ [f z]))) es D.nx) : N B hs es (tDrop (tBM K "list" rAppend to (tCons ta tNil)) D) := fun σ H s =>
  ho _ σ H s.e _ fun x H1 f1 r1 => by
    have s1 := s.mono f1
    obtain ⟨_, _, o, hpo, vs, eo, al⟩ := s1.e.ht _ (List.mem_of_getElem? hn)
    subst eo
    refine ⟨by rw [show x = V.ref p from r1]; exact Or.inl ⟨rfl, vs, sq_of hpo⟩, ha _ σ H1 s1.e _ fun v H2 f2 r2 => ?_⟩
    obtain ⟨z, pz, r2⟩ := r2
    have s2 := s1.mono f2
    obtain ⟨_, _, o2, hpo2, vs2, eo2, al2⟩ := s2.e.ht _ (List.mem_of_getElem? hn)
    subst eo2
    exact ⟨p, vs2, v, r1, rfl, hpo2, by rw [al2.len]; exact Nat.lt_of_le_of_lt hl (by decide), k z pz _ _ (s2.put hn ⟨_, rfl, al2.snoc r2⟩)⟩
def cutA {α : Type} (xs : List α) (lo hi : Option Int) : List α := (xs.drop (HT.sIx xs.length 0 lo)).take (HT.sIx xs.length xs.length hi - HT.sIx xs.length 0 lo)
theorem mem_cutA {α : Type} {xs : List α} {lo hi : Option Int} {c : α} (h : c ∈ cutA xs lo hi) : c ∈ xs := List.mem_of_mem_drop (List.mem_of_mem_take h)
theorem len_cutA {α : Type} {xs : List α} {lo hi : Option Int} : (cutA xs lo hi).length ≤ xs.length := by
  unfold cutA
  rw [List.length_take, List.length_drop]
  omega
theorem cutR_map {α : Type} {f : α → Rep} {xs : List α} {lo hi : Option Int} : cutR (xs.map f) lo hi = (cutA xs lo hi).map f := by
  unfold cutR cutA
  rw [List.length_map, ← List.map_drop, ← List.map_take]
theorem en_cutA {α : Type} {f : α → Rep} {xs : List α} {lo hi : Option Int} {tl th : TO} (ha : EV b hs es ta (rL (xs.map f))) (hl : EO b hs es tl (fun o => o = lo)) (hh : EO b hs es th (fun o => o = hi)) : EN b hs es (tSl (rSlL K) ta tl th) (hL ((cutA xs lo hi).map f)) :=
  en_slice ha hl hh fun l u el eu vs M al => by
    subst el eu
    rw [cutR_map] at al
    exact ⟨vs, rfl, al⟩
theorem eo_int {i : Int} (ha : EV b hs es ta (rInt i)) : EO b hs es (tPart ta) (fun o => o = some i) := fun S σ H s Q q => ha S σ H s _ fun v H1 f r => ⟨i, r, q _ H1 f rfl⟩
theorem et_andG {tt tu : TT} {P1 P2 : Bool → Prop} (h1 : ET b hs es tt P1) (h2 : P1 true → ET b hs es tu P2) : ET b hs es (tAnd tt tu) (fun k => k = true → P1 true ∧ P2 true) := fun S σ H s Q q => h1 S σ H s _ fun k H1 f e => by
  cases k with
  | true =>
    rw [if_pos rfl]
    exact h2 e S σ H1 (s.mono f) Q fun k2 H2 f2 e2 => q k2 H2 (f.trans f2) fun h => ⟨e, h ▸ e2⟩
  | false => rw [if_neg Bool.false_ne_true]; exact q _ H1 f fun h => nomatch h
end
end L2.K9A
end
section
set_option Elab.async false
set_option linter.all false
set_option maxRecDepth 100000
set_option maxHeartbeats 4000000
namespace K9W
open PySem PySem.Spec PyProof.Rows L2 L2.K9R L2.K9A K9 K9M
open C8 (Cal Met pe_c pe_mt pe_mt0 InsC call_isC pe_gc)
section
variable {P : Program} {w : World} {K : PySem.W.Frag} {hp : Heap} {mg : Str → Option Value} {base : Heap}

def CT_L_law_bag (K : PySem.W.Frag) : Option Addr → List Rep → HRep → Prop := fun _ rs h => ∃ ns : List Int, ns.length ≤ 63 ∧ rs = [rScript K ns] ∧ h = hB ns 0 0 (12030 + 31 * (ns.length : Nat)) 0
theorem len_L_law_bag : ∀ b rs h, CT_L_law_bag K b rs h → rs.length = 1 := fun _ _ _ ⟨_, _, e, _⟩ => by rw [e]; rfl
theorem sc_L_law_bag : FnScope ["_law_script", "_law_cells"] ["_law_script"] K9H.d_L_law_bag.scope := ⟨rfl, rfl, rfl, by decide +kernel, rfl, by decide +kernel, by decide +kernel⟩
theorem c_L_law_bag (X : K.In hp) (G : hp.Ns mainGlobals mg) (c : K9H.Sy K) : Cal P w K mg base 1 "_law_bag" (SpN (CT_L_law_bag K)) [] := by
  obtain ⟨fd, F⟩ := c.def_ 30 (d := K9H.d_L_law_bag) rfl
  have F : FunD K K9H.d_L_law_bag.name K9H.d_L_law_bag.qual K9H.d_L_law_bag.params K9H.d_L_law_bag.body K9H.d_L_law_bag.scope [] [] _ fd := F
  have T := txt X G c
  have sc := sc_L_law_bag
  refine calD F (He.glo_ok X G (c.fact 18 (f := .glo "_law_bag") rfl)) (bindsD F fun _ _ _ _ _ _ us hl => match us, hl with | [_], _ => rfl) (fnN (ps := ["_law_script"]) F sc (CT_L_law_bag K) ?_ ?_)
  case refine_1 => exact len_L_law_bag
  refine fun cdv A outer s H E hr => ⟨_, (pss_cons (ps_set (i := 1) sc.nd rfl (by first | exact Or.inl rfl | exact Or.inr rfl) (pe_callTy (T := "list") (call_list_ofK (K := K) rfl) (by rfl) T.z_list (by decide +kernel) (pa_cons (pe_slice (sl_listK (K := K) rfl) (pv 0) po_none (po_some pe_int)) pa_nil)))
  (pss_one (ps_ret (pe_lst (pa_cons (pv 1) (pa_cons pe_int (pa_cons pe_int (pa_cons (pe_op op_add pe_int (pe_op op_mul pe_int (pe_callB (id := "len") (call_lenK (K := K) rfl) (by rfl) T.z_len (by decide +kernel) (pa_cons (pv 1) pa_nil)))) (pa_cons pe_int pa_nil))))))))), fun B Q rs R hC hgs k => ?_⟩
  obtain ⟨ns, hl, rfl, rfl⟩ := hC
  refine q_asg (R := rL (ns.map rInt)) (en_list (R := rL (ns.map rInt)) (en_script (n := 63) (ev_var rfl) hl (fun S σ H s Q q => ⟨63, rfl, q _ H (Fr.refl s.ok) rfl⟩)).ev lat_data).ev ?_
  refine w_retN (en_lst (ea_cons (ev_var rfl) (ea_cons ev_c (ea_cons ev_c (ea_cons (ev_opV ev_c (ev_opV ev_c (ev_lenM (ev_var rfl) lat_data) (rv_I (Or.inl (by decide)))) rv_I0) (ea_cons ev_c ea_nil))))) (by exact Nat.le_of_ble_eq_true rfl)) k
def CT_L_law_pick : Option Addr → List Rep → Rep → Prop := fun b rs R => (∃ (a : Addr) (rs' : List Rep), b = some a ∧ 1 ≤ rs'.length ∧ rs'.length ≤ 1000 ∧ rs = [rAt a, rL rs'] ∧ R = rEx (fun r : Rep => r ∈ rs') fun r => r) ∨
  ∃ (a : Addr) (z : Str), b = some a ∧ 1 ≤ z.length ∧ z.length ≤ 1000 ∧ rs = [rAt a, rStr z] ∧ R = rEx (fun c : Nat => c ∈ z.cps.toList) fun c => rStr ⟨#[c]⟩
theorem len_L_law_pick : ∀ b rs R, CT_L_law_pick b rs R → rs.length = 2 := fun _ _ _ h => by
  rcases h with ⟨_, _, _, _, _, e, _⟩ | ⟨_, _, _, _, _, e, _⟩ <;> (rw [e]; rfl)
theorem sc_L_law_pick : FnScope ["_law_bag_here", "_law_some"] ["_law_bag_here", "_law_some"] K9H.d_L_law_pick.scope := ⟨rfl, rfl, rfl, by decide +kernel, rfl, by decide +kernel, by decide +kernel⟩
theorem c_L_law_pick (X : K.In hp) (G : hp.Ns mainGlobals mg) (c : K9H.Sy K) : Cal P w K mg base 2 "_law_pick" (SpD CT_L_law_pick) [] := by
  obtain ⟨fd, F⟩ := c.def_ 32 (d := K9H.d_L_law_pick) rfl
  have F : FunD K K9H.d_L_law_pick.name K9H.d_L_law_pick.qual K9H.d_L_law_pick.params K9H.d_L_law_pick.body K9H.d_L_law_pick.scope [] [] _ fd := F
  have T := txt X G c
  have C_L_law_draw := c_L_law_draw (P := P) (w := w) (base := base) X G c
  have sc := sc_L_law_pick
  refine calD F (He.glo_ok X G (c.fact 20 (f := .glo "_law_pick") rfl)) (bindsD F fun _ _ _ _ _ _ us hl => match us, hl with | [_, _], _ => rfl) (fnD (ps := ["_law_bag_here", "_law_some"]) F sc CT_L_law_pick ?_ ?_)
  case refine_1 => exact len_L_law_pick
  refine fun cdv A outer s H E hr => ⟨_, (pss_one (ps_ret (pe_ix (ix_seqK (K := K) rfl) (pv 1) (pe_c C_L_law_draw hr (by decide) (by rfl) (pa_cons (pv 0) (pa_cons (pe_callB (id := "len") (call_lenK (K := K) rfl) (by rfl) T.z_len (by decide +kernel) (pa_cons (pv 1) pa_nil)) pa_nil))) (fun _ _ => rfl)))), fun B Q rs R hC hgs k => ?_⟩
  rcases hC with ⟨a, rs', hb, h1, h2, rfl, rfl⟩ | ⟨a, z, hb, h1, h2, rfl, rfl⟩
  · refine w_ret (ev_opV (ev_var rfl) (ev_call (ea_cons (ev_var rfl) (ea_cons (ev_lenL (ev_var rfl) lat_data) ea_nil)) ⟨a, _, hb, ?_, ?_, rfl, rfl⟩) (rv_ixQL fun i hi => ⟨hi.1, ?_⟩)) k
    · omega
    · omega
    · have := hi.2
      omega
  · refine w_ret (ev_opV (ev_var rfl) (ev_call (ea_cons (ev_var rfl) (ea_cons (ev_lenS (ev_var rfl) ?_) ea_nil)) ⟨a, _, hb, ?_, ?_, rfl, rfl⟩) (rv_ixQS ?_ fun i hi => ⟨hi.1, ?_⟩)) k
    · omega
    · omega
    · omega
    · omega
    · have := hi.2
      omega
def CT_L_law_mixed : Option Addr → List Rep → HRep → Prop := fun b rs h => ∃ (a : Addr) (rs' : List Rep), b = some a ∧ rs'.length ≤ 1000 ∧ rs = [rAt a, rL rs'] ∧ h = hEx (fun l : List Rep => l.Perm rs') hL
theorem len_L_law_mixed : ∀ b rs h, CT_L_law_mixed b rs h → rs.length = 2 := fun _ _ _ ⟨_, _, _, _, e, _⟩ => by rw [e]; rfl
theorem sc_L_law_mixed : FnScope ["_law_bag_here", "_law_some", "_law_found", "_law_item"] ["_law_bag_here", "_law_some"] K9H.d_L_law_mixed.scope := ⟨rfl, rfl, rfl, by decide +kernel, rfl, by decide +kernel, by decide +kernel⟩
theorem c_L_law_mixed (X : K.In hp) (G : hp.Ns mainGlobals mg) (c : K9H.Sy K) : Cal P w K mg base 2 "_law_mixed" (SpN CT_L_law_mixed) [] := by
  obtain ⟨fd, F⟩ := c.def_ 33 (d := K9H.d_L_law_mixed) rfl
  have F : FunD K K9H.d_L_law_mixed.name K9H.d_L_law_mixed.qual K9H.d_L_law_mixed.params K9H.d_L_law_mixed.body K9H.d_L_law_mixed.scope [] [] _ fd := F
  have T := txt X G c
  have C_L_law_draw := c_L_law_draw (P := P) (w := w) (base := base) X G c
  have sc := sc_L_law_mixed
  refine calD F (He.glo_ok X G (c.fact 21 (f := .glo "_law_mixed") rfl)) (bindsD F fun _ _ _ _ _ _ us hl => match us, hl with | [_, _], _ => rfl) (fnN (ps := ["_law_bag_here", "_law_some"]) F sc CT_L_law_mixed ?_ ?_)
  case refine_1 => exact len_L_law_mixed
  refine fun cdv A outer s H E hr => ⟨_, (pss_cons (ps_set (i := 2) sc.nd rfl (by first | exact Or.inl rfl | exact Or.inr rfl) (pe_lst pa_nil))
  (pss_cons (ps_for PassesOwn.never rfl (pi_listK (K := K) rfl (pv 1)) (pg_name (i := 3) sc.nd rfl (by first | exact Or.inl rfl | exact Or.inr rfl))
  (pss_one (ps_expr (pe_bm PySem.F.plainAttrs_list PySem.F.slot_list_insert PySem.F.type_list_insert mt_insertK (pv 2) (pa_cons (pe_c C_L_law_draw hr (by decide) (by rfl) (pa_cons (pv 0) (pa_cons (pe_op op_add (pe_callB (id := "len") (call_lenK (K := K) rfl) (by rfl) T.z_len (by decide +kernel) (pa_cons (pv 2) pa_nil)) pe_int) pa_nil))) (pa_cons (pv 3) pa_nil))))))
  (pss_one (ps_ret (pv 2))))), fun B Q rs R hC hgs k => ?_⟩
  obtain ⟨a, rs', hb, hl, rfl, rfl⟩ := hC
  refine q_new (en_lst (Rs := []) ea_nil (by exact Nat.zero_le _)) fun p => ?_
  refine q_for (ys := rs') (F := fun r => r) (src_list (ev_to (R' := rL (rs'.map fun r => r)) (ev_var rfl) (by rw [List.map_id']))) (fun (i : Nat) (x : List Rep) => x.Perm (rs'.take i)) (fun x => [(p, hL x)]) (fun _ => [some (rAt a), some (rL rs'), some (rAt p), none]) [] (List.Perm.refl _) rfl ⟨rfl, rfl, rfl, True.intro⟩ (fun _ _ => gt_name) ?_ ?_
  · rintro gs i r x hr hp
    have hxl : x.length = i := by
      have h1 := (List.getElem?_eq_some_iff.mp hr).1
      rw [hp.length_eq, List.length_take]
      omega
    have hil := (List.getElem?_eq_some_iff.mp hr).1
    refine w_insert (n := 0) (P := fun k => 0 ≤ k ∧ k < ((x.length : Nat) : Int) + 1) rfl (ev_var rfl) (ev_call (ea_cons (ev_var rfl) (ea_cons (ev_opV (ev_lenL (ev_var rfl) (lat_hot List.mem_cons_self)) ev_c rv_I0) ea_nil)) ⟨a, _, hb, ?_, ?_, rfl, rfl⟩) (ev_var rfl) ?_ (fun k hk => ⟨hk.1, by have := hk.2; omega⟩) (fun j hj => ?_)
    · omega
    · omega
    · omega
    · dsimp only
      refine n_inv (x.take j.toNat ++ [r] ++ x.drop j.toNat) ?_ rfl (by exact ⟨rfl, rfl, rfl, True.intro⟩)
      rw [take_snoc hr]
      have e1 : (x.take j.toNat ++ [r] ++ x.drop j.toNat).Perm (r :: x) := by
        rw [List.append_assoc]
        refine List.perm_middle.trans ?_
        show (r :: (x.take j.toNat ++ x.drop j.toNat)).Perm (r :: x)
        rw [List.take_append_drop]
      exact e1.trans ((hp.cons r).trans (List.perm_append_singleton r _).symm)
  · rintro x hp
    rw [List.take_length] at hp
    exact w_retH (h := hL x) rfl fun p o H' f e hh => k p o H' f e ⟨x, hp, hh⟩
def CT_L_law_sizes : Option Addr → List Rep → Rep → Prop := fun b rs R => ∃ a : Addr, b = some a ∧ rs = [rAt a] ∧ R = rEx (fun p : Nat × Nat => 1 ≤ p.1 ∧ p.1 ≤ 12 ∧ 1 ≤ p.2 ∧ p.2 ≤ 12) fun p => rCell ((p.1 : Int), (p.2 : Int))
theorem len_L_law_sizes : ∀ b rs R, CT_L_law_sizes b rs R → rs.length = 1 := fun _ _ _ ⟨_, _, e, _⟩ => by rw [e]; rfl
theorem ev_draw {b : Option Addr} {a : Addr} {hs : Hs} {es : Es} {ta tn : TE} {n : Int} {E : XK} (hb : b = some a) (h1 : 1 ≤ n) (h2 : n < 1073741824) (ha : EV b hs es ta (rAt a)) (hn : EV b hs es tn (rInt n)) : EV b hs es (tCall (SpD CT_L_law_draw) [] E (tCons ta (tCons tn tNil))) (rZ fun k => 0 ≤ k ∧ k < n) :=
  ev_call (ea_cons ha (ea_cons hn ea_nil)) ⟨a, n, hb, h1, h2, rfl, rfl⟩
theorem sc_L_law_sizes : FnScope ["_law_bag_here"] ["_law_bag_here"] K9H.d_L_law_sizes.scope := ⟨rfl, rfl, rfl, by decide +kernel, rfl, by decide +kernel, by decide +kernel⟩
theorem c_L_law_sizes (X : K.In hp) (G : hp.Ns mainGlobals mg) (c : K9H.Sy K) : Cal P w K mg base 3 "_law_sizes" (SpD CT_L_law_sizes) [] := by
  obtain ⟨fd, F⟩ := c.def_ 44 (d := K9H.d_L_law_sizes) rfl
  have F : FunD K K9H.d_L_law_sizes.name K9H.d_L_law_sizes.qual K9H.d_L_law_sizes.params K9H.d_L_law_sizes.body K9H.d_L_law_sizes.scope [] [] _ fd := F
  have T := txt X G c
  have C_L_law_draw := c_L_law_draw (P := P) (w := w) (base := base) X G c
  have C_L_law_pick := c_L_law_pick (P := P) (w := w) (base := base) X G c
  have sc := sc_L_law_sizes
  refine calD F (He.glo_ok X G (c.fact 32 (f := .glo "_law_sizes") rfl)) (bindsD F fun _ _ _ _ _ _ us hl => match us, hl with | [_], _ => rfl) (fnD (ps := ["_law_bag_here"]) F sc CT_L_law_sizes ?_ ?_)
  case refine_1 => exact len_L_law_sizes
  refine fun cdv A outer s H E hr => ⟨_, (pss_cons (ps_if (pt_cmpR op_eq (pe_c C_L_law_draw hr (by decide) (by rfl) (pa_cons (pv 0) (pa_cons pe_int pa_nil))) pe_int (nomark _))
  (pss_one (ps_ret (pe_c C_L_law_pick hr (by decide) (by rfl) (pa_cons (pv 0) (pa_cons (pe_lst (pa_cons (pe_tup (pa_cons pe_int (pa_cons pe_int pa_nil))) (pa_cons (pe_tup (pa_cons pe_int (pa_cons pe_int pa_nil))) (pa_cons (pe_tup (pa_cons pe_int (pa_cons pe_int pa_nil))) (pa_cons (pe_tup (pa_cons pe_int (pa_cons pe_int pa_nil))) pa_nil))))) pa_nil)))))
  pss_nil)
  (pss_one (ps_ret (pe_tup (pa_cons (pe_op op_add pe_int (pe_c C_L_law_draw hr (by decide) (by rfl) (pa_cons (pv 0) (pa_cons pe_int pa_nil)))) (pa_cons (pe_op op_add pe_int (pe_c C_L_law_draw hr (by decide) (by rfl) (pa_cons (pv 0) (pa_cons pe_int pa_nil)))) pa_nil)))))), fun B Q rs R hC hgs k => ?_⟩
  obtain ⟨a, hb, rfl, rfl⟩ := hC
  refine q_whenX (P := fun _ => True) (et_testX ((ev_opV (ev_draw hb (by decide) (by decide) (ev_var rfl) ev_c) ev_c (rv_exL fun n _ => rv_up (R' := rEx (fun _ => True) rBl) (rv_eq rfl) fun v M h => ⟨_, True.intro, h⟩)))) (fun _ => ?_) (fun _ => ?_)
  · refine w_ret (EV.up (ev_call (ea_cons (ev_var rfl) (ea_cons (ev_lst (ea_cons (ev_tup (ea_cons ev_c (ea_cons ev_c ea_nil))) (ea_cons (ev_tup (ea_cons ev_c (ea_cons ev_c ea_nil))) (ea_cons (ev_tup (ea_cons ev_c (ea_cons ev_c ea_nil))) (ea_cons (ev_tup (ea_cons ev_c (ea_cons ev_c ea_nil))) ea_nil))))) ea_nil)) (Or.inl ⟨a, _, hb, by exact Nat.le_of_ble_eq_true rfl, by exact Nat.le_of_ble_eq_true rfl, rfl, rfl⟩)) ?_) k
    rintro v M ⟨r, hr, hv⟩
    rcases List.mem_cons.mp hr with e | hr
    · rw [e] at hv
      exact ⟨(12, 12), ⟨by decide, by decide, by decide, by decide⟩, hv⟩
    rcases List.mem_cons.mp hr with e | hr
    · rw [e] at hv
      exact ⟨(1, 12), ⟨by decide, by decide, by decide, by decide⟩, hv⟩
    rcases List.mem_cons.mp hr with e | hr
    · rw [e] at hv
      exact ⟨(12, 1), ⟨by decide, by decide, by decide, by decide⟩, hv⟩
    rcases List.mem_cons.mp hr with e | hr
    · rw [e] at hv
      exact ⟨(7, 5), ⟨by decide, by decide, by decide, by decide⟩, hv⟩
    · cases hr
  · refine w_ret (EV.up (ev_tup (ea_cons (ev_opV ev_c (ev_draw hb (by decide) (by decide) (ev_var rfl) ev_c) (rv_exR fun n hn => rv_up (R' := rZ fun m => 1 ≤ m ∧ m ≤ 4) rv_I0 fun v M h => ⟨1 + n, ⟨by have := hn.1; omega, by have := hn.2; omega⟩, h⟩)) (ea_cons (ev_opV ev_c (ev_draw hb (by decide) (by decide) (ev_var rfl) ev_c) (rv_exR fun n hn => rv_up (R' := rZ fun m => 1 ≤ m ∧ m ≤ 4) rv_I0 fun v M h => ⟨1 + n, ⟨by have := hn.1; omega, by have := hn.2; omega⟩, h⟩)) ea_nil))) ?_) k
    rintro v M ⟨t, vs, e, ht, al⟩
    obtain ⟨x, y, rfl, ⟨m, hm, hx⟩, ⟨n, hn, hy⟩⟩ := all_2 al
    refine ⟨(m.toNat, n.toNat), ⟨by show 1 ≤ m.toNat; omega, by show m.toNat ≤ 12; omega, by show 1 ≤ n.toNat; omega, by show n.toNat ≤ 12; omega⟩, t, [x, y], e, ht, ?_, ?_, True.intro⟩
    · show x = V.int ((m.toNat : Nat) : Int)
      rw [Int.toNat_of_nonneg (by omega)]
      exact hx
    · show y = V.int ((n.toNat : Nat) : Int)
      rw [Int.toNat_of_nonneg (by omega)]
      exact hy

end
end K9W
end
section
set_option Elab.async false
set_option linter.all false
set_option maxRecDepth 100000
set_option maxHeartbeats 4000000
namespace K9W
open PySem PySem.Spec PyProof.Rows L2 L2.K9R L2.K9A K9 K9M
open C8 (Cal Met pe_c pe_mt pe_mt0 InsC call_isC pe_gc)
section
variable {P : Program} {w : World} {K : PySem.W.Frag} {hp : Heap} {mg : Str → Option Value} {base : Heap}

theorem joinL_nil : ∀ ls : List (List Nat), TL.joinL [] ls = ls.flatten
  | [] => rfl
  | [p] => by simp [TL.joinL]
  | p :: q :: r => by
    have ih := joinL_nil (q :: r)
    show p ++ ([] ++ TL.joinL [] (q :: r)) = _
    rw [List.nil_append, ih]
    rfl
theorem join_signs {sep : Str} (h : sep.cps.toList = []) (cs : List Nat) : (Txt.join sep (cs.map fun c => (⟨#[c]⟩ : Str))).cps.toList = cs := by
  rw [TL.join_eq]
  have e := TL.tl_join sep (cs.map fun c => (⟨#[c]⟩ : Str))
  show TL.tl _ = _
  rw [e, show TL.tl sep = [] from h, joinL_nil, List.map_map]
  clear e
  induction cs with
  | nil => rfl
  | cons c cs ih => exact congrArg (c :: ·) ih
def CT_L_law_word : Option Addr → List Rep → Rep → Prop := fun b rs R => ∃ a : Addr, b = some a ∧ rs = [rAt a, rInt 6] ∧ R = rEx IsWord rStr
theorem len_L_law_word : ∀ b rs R, CT_L_law_word b rs R → rs.length = 2 := fun _ _ _ ⟨_, _, e, _⟩ => by rw [e]; rfl
theorem sc_L_law_word : FnScope ["_law_bag_here", "_law_most", "_law_letters", "_law_k"] ["_law_bag_here", "_law_most"] K9H.d_L_law_word.scope := ⟨rfl, rfl, rfl, by decide +kernel, rfl, by decide +kernel, by decide +kernel⟩
theorem c_L_law_word (X : K.In hp) (G : hp.Ns mainGlobals mg) (c : K9H.Sy K) : Cal P w K mg base 3 "_law_word" (SpD CT_L_law_word) [] := by
  obtain ⟨fd, F⟩ := c.def_ 34 (d := K9H.d_L_law_word) rfl
  have F : FunD K K9H.d_L_law_word.name K9H.d_L_law_word.qual K9H.d_L_law_word.params K9H.d_L_law_word.body K9H.d_L_law_word.scope [] [] _ fd := F
  have T := txt X G c
  have C_L_law_draw := c_L_law_draw (P := P) (w := w) (base := base) X G c
  have C_L_law_pick := c_L_law_pick (P := P) (w := w) (base := base) X G c
  have sc := sc_L_law_word
  refine calD F (He.glo_ok X G (c.fact 22 (f := .glo "_law_word") rfl)) (bindsD F fun _ _ _ _ _ _ us hl => match us, hl with | [_, _], _ => rfl) (fnD (ps := ["_law_bag_here", "_law_most"]) F sc CT_L_law_word ?_ ?_)
  case refine_1 => exact len_L_law_word
  refine fun cdv A outer s H E hr => ⟨_, (pss_cons (ps_set (i := 2) sc.nd rfl (by first | exact Or.inl rfl | exact Or.inr rfl) pe_str)
  (pss_one (ps_ret (pe_joinK pe_str (pe_lc (own := [("_law_k", 3)]) rfl sc.nd (pi_range1 (by rfl) T.z_range (pa_cons (pe_op op_add pe_int (pe_c C_L_law_draw hr (by decide) (by rfl) (pa_cons (pv 0) (pa_cons (pv 1) pa_nil)))) pa_nil)) (blkOk_by (by kernel_rfl)) (fun _ _ _ _ _ => (pg_name (i := 3) sc.nd rfl (by first | exact Or.inl rfl | exact Or.inr rfl))) (fun _ _ _ _ _ => pts_nil) (fun _ _ _ _ _ => (pe_c C_L_law_pick hr (by decide) (by rfl) (pa_cons (pv 0) (pa_cons (pv 2) pa_nil))))))))), fun B Q rs R hC hgs k => ?_⟩
  obtain ⟨a, hb, rfl, rfl⟩ := hC
  refine q_asg ev_c ?_
  refine w_ret (R := rEx IsWord rStr) (ev_join (P := fun ys => ∃ cs : List Nat, ys = cs.map (fun c => (⟨#[c]⟩ : Str)) ∧ IsW cs) ev_c (EV.up (EN.evX (en_exX (h := fun n : Int => hEx (fun cs : List Nat => cs.length = n.toNat ∧ ∀ c ∈ cs, c ∈ abc) fun cs => hL (cs.map fun c => rStr ⟨#[c]⟩)) (src_rangeX (P := fun n => 1 ≤ n ∧ n ≤ 6) (ev_opV ev_c (ev_draw hb (by decide) (by decide) (ev_var rfl) (ev_var rfl)) (rv_exR fun n hn => rv_up (R' := rZ fun m => 1 ≤ m ∧ m ≤ 6) rv_I0 fun v M h => ⟨1 + n, ⟨by have := hn.1; omega, by have := hn.2; omega⟩, h⟩)) (fun n hn => ⟨by omega, by omega⟩)) fun n hn S wi' src => ?_)) ?_) ?_ ?_) k
  · refine en_lcX1 src (fun _ _ => gt_name) (fun _ h => h) (fun i acc => ∃ cs : List Nat, cs.length = i ∧ (∀ c ∈ cs, c ∈ abc) ∧ acc = cs.map fun c => rStr ⟨#[c]⟩) ⟨[], rfl, fun c h => (by cases h), rfl⟩ (by rw [List.length_range]; omega) ?_ ?_
    · rintro i y acc _ ⟨cs, hl, hc, rfl⟩
      refine ⟨fun c => c = true, _, et_yes, fun _ => ⟨ev_call (ea_cons (ev_var rfl) (ea_cons (ev_var rfl) ea_nil)) (Or.inr ⟨a, _, hb, by decide, by decide, rfl, rfl⟩), ?_⟩, fun h => nomatch h⟩
      rintro v M ⟨c, hcm, hv⟩
      refine ⟨rStr ⟨#[c]⟩, hv, cs ++ [c], by rw [List.length_append, hl]; rfl, fun d hd => ?_, by rw [List.map_append]; rfl⟩
      rcases List.mem_append.mp hd with hd | hd
      · exact hc d hd
      · rw [List.mem_singleton.mp hd]
        exact hcm
    · rintro acc ⟨cs, hl, hc, rfl⟩ o M hh
      rw [List.length_range] at hl
      exact ⟨cs, ⟨hl, hc⟩, hh⟩
  · rintro v M ⟨n, hn, p, o, e1, e2, cs, ⟨hl, hc⟩, hh⟩
    refine ⟨cs.map fun c => (⟨#[c]⟩ : Str), ⟨cs, rfl, by omega, by omega, hc⟩, p, o, e1, e2, ?_⟩
    rw [List.map_map]
    exact hh
  · rintro ys ⟨cs, rfl, h1, h6, h7⟩
    have e : ((cs.map fun c => (⟨#[c]⟩ : Str)).map (·.length)).sum = cs.length := by
      clear h1 h6 h7
      rw [List.map_map]
      induction cs with
      | nil => rfl
      | cons c cs ih =>
        rw [List.map_cons, List.sum_cons, ih, List.length_cons]
        show 1 + cs.length = _
        omega
    rw [e, List.length_map]
    show cs.length + cs.length * 0 ≤ 16777216
    omega
  · rintro ys ⟨cs, rfl, hw⟩
    rw [word_tl, join_signs rfl]
    exact hw
/-- a sign that is not there -/
theorem fresh_sign {ns : List Str} {ls : List Nat} (nd : ls.Nodup) (hl : ns.length < ls.length) : ∃ c ∈ ls, (⟨#[c]⟩ : Str) ∉ ns := by
  rcases Classical.em (∃ c ∈ ls, (⟨#[c]⟩ : Str) ∉ ns) with h | h
  · exact h
  · exfalso
    have hall : ∀ c ∈ ls, (⟨#[c]⟩ : Str) ∈ ns := fun c hc => Classical.byContradiction fun q => h ⟨c, hc, q⟩
    have := nd_len (xs := ls.map fun c => (⟨#[c]⟩ : Str)) (ys := ns) (List.Pairwise.map _ (fun a b hab e => hab (by
      injection e with e
      have := congrArg Array.toList e
      simpa using this)) nd) fun z hz => by
      obtain ⟨c, hc, rfl⟩ := List.mem_map.mp hz
      exact hall c hc
    rw [List.length_map] at this
    omega
abbrev a2p : Str := "abcdefghijklmnop"
theorem a2p_abc : ∀ c ∈ a2p.cps.toList, c ∈ abc := by decide
theorem a2p_nd : a2p.cps.toList.Nodup := by decide
theorem a2p_len : a2p.cps.toList.length = 16 := by decide
theorem sign_word {c : Nat} (h : c ∈ a2p.cps.toList) : IsWord ⟨#[c]⟩ := word_tl.mpr ⟨Nat.le_refl 1, (by show 1 ≤ 6; decide), fun d hd => by rw [List.mem_singleton.mp hd]; exact a2p_abc c h⟩
theorem word_len {z : Str} (h : IsWord z) : z.length ≤ 6 := h.2.1
theorem word_ok {z : Str} (h : IsWord z) : PySem.PyData.strOk z = true := by
  unfold PySem.PyData.strOk
  rw [Array.all_eq_true]
  intro i hi
  have hm : z.cps[i] ∈ z.cps.toList := Array.mem_toList_iff.mpr (Array.getElem_mem hi)
  have h2 : ∀ c ∈ abc, c < 0x110000 := by decide
  simpa using h2 _ (h.2.2 _ hm)
/-- [one for one in [word] + list('a..p') if one not in names][0] -/
theorem fresh_filter {z : Str} {ns : List Str} (hl : ns.length ≤ 15) : ∃ y, ((z :: a2p.cps.toList.map fun c => (⟨#[c]⟩ : Str)).filter fun o => !decide (o ∈ ns))[0]? = some y ∧ y ∉ ns ∧ (IsWord z → IsWord y) := by
  obtain ⟨c, hc, hn⟩ := fresh_sign (ns := ns) a2p_nd (by rw [a2p_len]; omega)
  have hm : (⟨#[c]⟩ : Str) ∈ (z :: a2p.cps.toList.map fun c => (⟨#[c]⟩ : Str)).filter fun o => !decide (o ∈ ns) := by
    rw [List.mem_filter]
    exact ⟨List.mem_cons_of_mem _ (List.mem_map.mpr ⟨c, hc, rfl⟩), by simpa using hn⟩
  cases e : (z :: a2p.cps.toList.map fun c => (⟨#[c]⟩ : Str)).filter fun o => !decide (o ∈ ns) with
  | nil =>
    rw [e] at hm
    cases hm
  | cons y r =>
    have hy : y ∈ (z :: a2p.cps.toList.map fun c => (⟨#[c]⟩ : Str)).filter fun o => !decide (o ∈ ns) := by rw [e]; exact List.mem_cons_self
    rw [List.mem_filter] at hy
    refine ⟨y, rfl, by simpa using hy.2, fun hz => ?_⟩
    rcases List.mem_cons.mp hy.1 with e | h
    · rw [e]; exact hz
    · obtain ⟨d, hd, rfl⟩ := List.mem_map.mp h
      exact sign_word hd
section
variable {b : Option Addr} {hs : Hs} {es : Es} {tw tf : TE} {i : Nat}
/-- .. what it comes to -/
theorem en_fresh {Pz : Str → Prop} {R : Rep} {ns : List Str} (ok : ∀ z, Pz z → IsWord z) (nok : ∀ s ∈ ns, IsWord s) (hw : EV b hs es tw (rEx Pz rStr)) (hi : ∀ o : Str, ((wipeE es [i]).set i (some (rStr o)))[i]? = some (some (rStr o))) (hf : ∀ o : Str, EV b hs ((wipeE es [i]).set i (some (rStr o))) tf R) (la : LAt b hs (ns.map rStr) R) :
    EN b hs es (tLc (iList K (tOp rCat (tLst (tCons tw tNil)) (tCB rListStr (tCons (tC (.str a2p)) tNil)))) (gName i) (tTest (tOp (rNotInD K) (tVar i) tf)) (tVar i) [i]) (hEx Pz fun z => hL (((z :: a2p.cps.toList.map fun c => (⟨#[c]⟩ : Str)).filter fun o => !decide (o ∈ ns)).map rStr)) := by
  refine en_exX (rs := fun z => (z :: a2p.cps.toList.map fun c => (⟨#[c]⟩ : Str)).map rStr) (src_listX (EV.up (ev_opV (ev_lst (ea_cons hw ea_nil)) (en_listStr ev_c (by decide)).ev (rv_cat (by exact Nat.le_of_ble_eq_true rfl))) ?_)) fun z hz S wi' src => ?_
  · rintro v M ⟨p, o, e1, e2, vs, e3, al⟩
    cases vs with
    | nil => exact al.elim
    | cons v0 vs =>
      obtain ⟨⟨z, pz, hz⟩, al⟩ := al
      refine ⟨z, pz, p, o, e1, e2, v0 :: vs, e3, hz, ?_⟩
      rw [List.map_map]
      exact al
  · refine en_lc1 _ _ rStr src (fun _ _ => gt_name) (fun _ h => h) (by rw [List.length_cons, List.length_map, a2p_len]; decide) (fun o ho => ?_) (fun o _ _ => ev_var (hi o))
    have hw : IsWord o := by
      rcases List.mem_cons.mp ho with e | h
      · rw [e]; exact ok z hz
      · obtain ⟨d, hd, rfl⟩ := List.mem_map.mp h
        exact sign_word hd
    refine et_to (et_test (ev_opV (ev_var (hi o)) (hf o) (rv_notInH (dl_data dp_str) (dl_lat la fun _ _ => dp_str) ((shp_str (word_ok hw)).ok (by decide)) ((shp_Ss ns fun s hs => word_ok (nok s hs)).ok (by decide))))) ?_
    rw [any_S]
theorem ev_fresh {Pz : Str → Prop} {R : Rep} {ns : List Str} (ok : ∀ z, Pz z → IsWord z) (nok : ∀ s ∈ ns, IsWord s) (hl : ns.length ≤ 15) (hw : EV b hs es tw (rEx Pz rStr)) (hi : ∀ o : Str, ((wipeE es [i]).set i (some (rStr o)))[i]? = some (some (rStr o))) (hf : ∀ o : Str, EV b hs ((wipeE es [i]).set i (some (rStr o))) tf R) (la : LAt b hs (ns.map rStr) R) :
    EV b hs es (tOp (rIxL K) (tLc (iList K (tOp rCat (tLst (tCons tw tNil)) (tCB rListStr (tCons (tC (.str a2p)) tNil)))) (gName i) (tTest (tOp (rNotInD K) (tVar i) tf)) (tVar i) [i]) (tC (.int 0))) (rEx (fun y : Str => IsWord y ∧ y ∉ ns) rStr) := by
  refine ev_opV (EN.evX (en_fresh (K := K) ok nok hw hi hf la)) ev_c (rv_exL fun z hz => ?_)
  obtain ⟨y, e, hn, hy⟩ := fresh_filter (z := z) (ns := ns) hl
  exact rv_up (rv_ixL lat_data (by decide) (by rw [List.getElem?_map]; show Option.map rStr (_)[0]? = _; rw [e]; rfl)) fun v M h => ⟨y, ⟨hy (ok z hz), hn⟩, h⟩
end
def CT_L_law_fresh : Option Addr → List Rep → Rep → Prop := fun b rs R => ∃ (a : Addr) (ns : List Str), b = some a ∧ ns.length ≤ 15 ∧ (∀ s ∈ ns, IsWord s) ∧ rs = [rAt a, rStrs ns] ∧ R = rEx (fun y : Str => IsWord y ∧ y ∉ ns) rStr
theorem len_L_law_fresh : ∀ b rs R, CT_L_law_fresh b rs R → rs.length = 2 := fun _ _ _ ⟨_, _, _, _, _, e, _⟩ => by rw [e]; rfl
theorem sc_L_law_fresh : FnScope ["_law_bag_here", "_law_names_here", "_law_one"] ["_law_bag_here", "_law_names_here"] K9H.d_L_law_fresh.scope := ⟨rfl, rfl, rfl, by decide +kernel, rfl, by decide +kernel, by decide +kernel⟩
theorem c_L_law_fresh (X : K.In hp) (G : hp.Ns mainGlobals mg) (c : K9H.Sy K) : Cal P w K mg base 4 "_law_fresh" (SpD CT_L_law_fresh) [] := by
  obtain ⟨fd, F⟩ := c.def_ 58 (d := K9H.d_L_law_fresh) rfl
  have F : FunD K K9H.d_L_law_fresh.name K9H.d_L_law_fresh.qual K9H.d_L_law_fresh.params K9H.d_L_law_fresh.body K9H.d_L_law_fresh.scope [] [] _ fd := F
  have T := txt X G c
  have C_L_law_word := c_L_law_word (P := P) (w := w) (base := base) X G c
  have sc := sc_L_law_fresh
  refine calD F (He.glo_ok X G (c.fact 46 (f := .glo "_law_fresh") rfl)) (bindsD F fun _ _ _ _ _ _ us hl => match us, hl with | [_, _], _ => rfl) (fnD (ps := ["_law_bag_here", "_law_names_here"]) F sc CT_L_law_fresh ?_ ?_)
  case refine_1 => exact len_L_law_fresh
  refine fun cdv A outer s H E hr => ⟨_, (pss_one (ps_ret (pe_ix (ix_listK (K := K) rfl) (pe_lc (own := [("_law_one", 2)]) rfl sc.nd (pi_listK (K := K) rfl (pe_op op_cat (pe_lst (pa_cons (pe_c C_L_law_word hr (by decide) (by rfl) (pa_cons (pv 0) (pa_cons pe_int pa_nil))) pa_nil)) (pe_callTy (T := "list") (call_listStr rfl) (by rfl) T.z_list (by decide +kernel) (pa_cons pe_str pa_nil)))) (blkOk_by (by kernel_rfl)) (fun _ _ _ _ _ => (pg_name (i := 2) sc.nd rfl (by first | exact Or.inl rfl | exact Or.inr rfl))) (fun _ _ _ _ _ => (pts_one (pt_cmpR (op_notInDK (K := K) (hu65_of hr) rfl) (pv 2) (pv 1) (by rfl)))) (fun _ _ _ _ _ => (pv 2))) pe_int (fun _ _ => rfl)))), fun B Q rs R hC hgs k => ?_⟩
  obtain ⟨a, ns, hb, hl, hw, rfl, rfl⟩ := hC
  exact w_ret (ev_fresh (R := rStrs ns) (fun z h => h) hw hl (ev_call (ea_cons (ev_var rfl) (ea_cons ev_c ea_nil)) ⟨a, hb, rfl, rfl⟩) (fun _ => rfl) (fun _ => ev_var rfl) lat_data) k

/-! the law's names -/
def Lt (s : Str) : Prop := (∀ c ∈ s.cps.toList, c ∈ abc) ∧ s.length ≤ 20
theorem lt_of_word {z : Str} (h : IsWord z) : Lt z := ⟨h.2.2, by have := h.2.1; omega⟩
theorem len_toList (z : Str) : z.length = z.cps.toList.length := Array.length_toList.symm
theorem cutS_toList (z : Str) (lo hi : Option Int) : (cutS z lo hi).cps.toList = (z.cps.toList.drop (HT.sIx z.length 0 lo)).take (HT.sIx z.length z.length hi - HT.sIx z.length 0 lo) := rfl
theorem lt_cut {z : Str} (h : Lt z) (lo hi : Option Int) : Lt (cutS z lo hi) := by
  refine ⟨fun c hc => h.1 c ?_, ?_⟩
  · rw [cutS_toList] at hc
    exact List.mem_of_mem_drop (List.mem_of_mem_take hc)
  · rw [len_toList, cutS_toList, List.length_take, List.length_drop, ← len_toList]
    have := h.2
    omega
theorem cut_part {z : Str} (h : (∀ c ∈ z.cps.toList, c ∈ abc) ∧ z.length ≤ 6) (lo hi : Option Int) : (∀ c ∈ (cutS z lo hi).cps.toList, c ∈ abc) ∧ (cutS z lo hi).length ≤ 6 := by
  refine ⟨(lt_cut ⟨h.1, by omega⟩ lo hi).1, ?_⟩
  rw [len_toList, cutS_toList, List.length_take, List.length_drop, ← len_toList]
  have := h.2
  omega
theorem app_toList (x y : Str) : (x ++ y).cps.toList = x.cps.toList ++ y.cps.toList := by
  show (x.cps ++ y.cps).toList = _
  exact Array.toList_append
theorem app_len (x y : Str) : (x ++ y).length = x.length + y.length := by rw [len_toList, app_toList, List.length_append, ← len_toList, ← len_toList]
def CT_L_law_names : Option Addr → List Rep → Rep → Prop := fun b rs R => ∃ (a : Addr) (n : Int), b = some a ∧ 1 ≤ n ∧ n ≤ 12 ∧ rs = [rAt a, rInt n] ∧ R = rEx (fun ns : List Str => ns.Nodup ∧ (∀ s ∈ ns, IsWord s) ∧ ns.length = n.toNat) rStrs
theorem len_L_law_names : ∀ b rs R, CT_L_law_names b rs R → rs.length = 2 := fun _ _ _ ⟨_, _, _, _, _, e, _⟩ => by rw [e]; rfl
theorem strs_ni {x : List Str} (hx : x ≠ []) : ∀ (o : HO) (M : Hp) (xs : List Int), (hL (x.map rStr)).P o M → o ≠ .lst (xs.map V.int) := by
  rintro o M xs ⟨vs, rfl, al⟩ e
  injection e with e
  subst e
  cases x with
  | nil => exact hx rfl
  | cons s x =>
    cases xs with
    | nil => exact al.elim
    | cons n xs =>
      have h1 : V.int n = V.str s := al.1
      cases h1
theorem sc_L_law_names : FnScope ["_law_bag_here", "_law_many", "_law_found", "_law_k", "_law_word_here", "_law_old", "_law_at", "_law_one"] ["_law_bag_here", "_law_many"] K9H.d_L_law_names.scope := ⟨rfl, rfl, rfl, by decide +kernel, rfl, by decide +kernel, by decide +kernel⟩
theorem c_L_law_names (X : K.In hp) (G : hp.Ns mainGlobals mg) (c : K9H.Sy K) : Cal P w K mg base 4 "_law_names" (SpD CT_L_law_names) [] := by
  obtain ⟨fd, F⟩ := c.def_ 35 (d := K9H.d_L_law_names) rfl
  have F : FunD K K9H.d_L_law_names.name K9H.d_L_law_names.qual K9H.d_L_law_names.params K9H.d_L_law_names.body K9H.d_L_law_names.scope [] [] _ fd := F
  have T := txt X G c
  have C_L_law_word := c_L_law_word (P := P) (w := w) (base := base) X G c
  have C_L_law_draw := c_L_law_draw (P := P) (w := w) (base := base) X G c
  have C_L_law_pick := c_L_law_pick (P := P) (w := w) (base := base) X G c
  have sc := sc_L_law_names
  refine calD F (He.glo_ok X G (c.fact 23 (f := .glo "_law_names") rfl)) (bindsD F fun _ _ _ _ _ _ us hl => match us, hl with | [_, _], _ => rfl) (fnD (ps := ["_law_bag_here", "_law_many"]) F sc CT_L_law_names ?_ ?_)
  case refine_1 => exact len_L_law_names
  refine fun cdv A outer s H E hr => ⟨_, (pss_cons (ps_set (i := 2) sc.nd rfl (by first | exact Or.inl rfl | exact Or.inr rfl) (pe_lst pa_nil))
  (pss_cons (ps_for PassesOwn.never rfl (pi_range1 (by rfl) T.z_range (pa_cons (pv 1) pa_nil)) (pg_name (i := 3) sc.nd rfl (by first | exact Or.inl rfl | exact Or.inr rfl))
  (pss_cons (ps_set (i := 4) sc.nd rfl (by first | exact Or.inl rfl | exact Or.inr rfl) (pe_c C_L_law_word hr (by decide) (by rfl) (pa_cons (pv 0) (pa_cons pe_int pa_nil))))
  (pss_cons (ps_if (PW.pt (pw_and (pt_cmpR (op_neDK (K := K) (hu64_of hr) rfl) (pv 2) (pe_lst pa_nil) (nomark _)) (pw_and1 (pt_cmpR op_eq (pe_c C_L_law_draw hr (by decide) (by rfl) (pa_cons (pv 0) (pa_cons pe_int pa_nil))) pe_int (nomark _)))))
  (pss_cons (ps_set (i := 5) sc.nd rfl (by first | exact Or.inl rfl | exact Or.inr rfl) (pe_c C_L_law_pick hr (by decide) (by rfl) (pa_cons (pv 0) (pa_cons (pv 2) pa_nil))))
  (pss_cons (ps_set (i := 6) sc.nd rfl (by first | exact Or.inl rfl | exact Or.inr rfl) (pe_c C_L_law_draw hr (by decide) (by rfl) (pa_cons (pv 0) (pa_cons (pe_callB (id := "len") (call_lenK (K := K) rfl) (by rfl) T.z_len (by decide +kernel) (pa_cons (pv 5) pa_nil)) pa_nil))))
  (pss_one (ps_set (i := 4) sc.nd rfl (by first | exact Or.inl rfl | exact Or.inr rfl) (pe_slice sl_str (pe_op op_catS (pe_op op_catS (pe_slice sl_str (pv 5) po_none (po_some (pv 6))) (pe_slice sl_str (pv 4) po_none (po_some pe_int))) (pe_slice sl_str (pv 5) (po_some (pe_op op_add (pv 6) (pe_c C_L_law_draw hr (by decide) (by rfl) (pa_cons (pv 0) (pa_cons pe_int pa_nil))))) po_none)) po_none (po_some pe_int))))))
  pss_nil)
  (pss_one (ps_expr (pe_bm PySem.F.plainAttrs_list PySem.F.slot_list_append PySem.F.type_list_append mt_append (pv 2) (pa_cons (pe_ix (ix_listK (K := K) rfl) (pe_lc (own := [("_law_one", 7)]) rfl sc.nd (pi_listK (K := K) rfl (pe_op op_cat (pe_lst (pa_cons (pv 4) pa_nil)) (pe_callTy (T := "list") (call_listStr rfl) (by rfl) T.z_list (by decide +kernel) (pa_cons pe_str pa_nil)))) (blkOk_by (by kernel_rfl)) (fun _ _ _ _ _ => (pg_name (i := 7) sc.nd rfl (by first | exact Or.inl rfl | exact Or.inr rfl))) (fun _ _ _ _ _ => (pts_one (pt_cmpR (op_notInDK (K := K) (hu65_of hr) rfl) (pv 7) (pv 2) (by rfl)))) (fun _ _ _ _ _ => (pv 7))) pe_int (fun _ _ => rfl)) pa_nil)))))))
  (pss_one (ps_ret (pv 2))))), fun B Q rs R hC hgs k => ?_⟩
  obtain ⟨a, n, hb, h1, h2, rfl, rfl⟩ := hC
  refine q_new (en_lst (Rs := []) ea_nil (by exact Nat.zero_le _)) fun p => ?_
  refine q_for (src_range (n := n) (ea_cons (ev_var rfl) ea_nil) (by omega) (by omega)) (fun (i : Nat) (x : List Str) => x.Nodup ∧ (∀ s ∈ x, IsWord s) ∧ x.length = i) (fun x => [(p, hL (x.map rStr))]) (fun _ => [some (rAt a), some (rInt n), some (rAt p), none, none, none, none, none]) [] ⟨List.nodup_nil, fun s h => (by cases h), rfl⟩ rfl ⟨rfl, rfl, rfl, True.intro⟩ (fun _ _ => gt_name) ?_ ?_
  · rintro gs i y x hy ⟨nd, wd, hxl⟩
    obtain ⟨rfl, hin⟩ := mem_range hy
    -- behind the if: found.append([.. if one not in found][0])
    have rest : ∀ (z : Str) (es : Es), IsWord z → LeE es [some (rAt a), some (rInt n), some (rAt p), none, some (rStr z), none, none, none] → N { B with gs := gs } [(p, hL (x.map rStr))] es
        (tDrop (tBM K "list" rAppend (tVar 2) (tCons (tOp (rIxL K) (tLc (iList K (tOp rCat (tLst (tCons (tVar 4) tNil)) (tCB rListStr (tCons (tC (.str a2p)) tNil)))) (gName 7) (tTest (tOp (rNotInD K) (tVar 7) (tVar 2))) (tVar 7) [7]) (tC (.int 0))) tNil))
          { nx := K9A.Inv { B with gs := gs } (fun (i : Nat) (x : List Str) => x.Nodup ∧ (∀ s ∈ x, IsWord s) ∧ x.length = i) (fun x => [(p, hL (x.map rStr))]) (fun _ => [some (rAt a), some (rInt n), some (rAt p), none, none, none, none, none]) (y + 1), rt := Q }) := by
      intro z es hz le
      refine n_less le ?_
      refine w_appX (n := 0) (rs := x.map rStr) rfl (ev_var rfl) (ev_fresh (Pz := fun s => s = z) (R := rAt p) (ns := x) (fun s h => h ▸ hz) wd (by omega) (EV.up (ev_var rfl) fun v M h => ⟨z, rfl, h⟩) (fun _ => rfl) (fun _ => ev_var rfl) (lat_hot List.mem_cons_self)) (by rw [List.length_map]; omega) fun o ho => ?_
      dsimp only
      refine n_inv (x ++ [o]) ⟨nd_snoc nd ho.2, fun s hs => ?_, by rw [List.length_append, hxl]; rfl⟩ ?_ (by exact ⟨rfl, rfl, rfl, True.intro⟩)
      · rcases List.mem_append.mp hs with h | h
        · exact wd s h
        · rw [List.mem_singleton.mp h]
          exact ho.1
      · show [(p, hL (x.map rStr ++ [rStr o]))] = [(p, hL ((x ++ [o]).map rStr))]
        rw [List.map_append]
        rfl
    refine q_asgX (ev_call (ea_cons (ev_var rfl) (ea_cons ev_c ea_nil)) ⟨a, hb, rfl, rfl⟩) fun z hz => ?_
    refine q_whenX (et_andX (c := !decide (x = [])) (et_to (et_test (ev_opV (ev_var rfl) (ev_lst ea_nil) (rv_neH (dl_lat (lat_hot List.mem_cons_self) (fun _ _ => dp_str)) (dl_data dp_nil) ((shp_Ss x fun s hs => word_ok (wd s hs)).ok (by decide)) ((shp_Cs []).ok (by decide))))) ?_) fun _ => et_testX ((ev_opV (ev_draw hb (by decide) (by decide) (ev_var rfl) ev_c) ev_c (rv_exL fun n _ => rv_up (R' := rEx (fun _ => True) rBl) (rv_eq rfl) fun v M h => ⟨_, True.intro, h⟩)))) (fun hc => ?_) (fun _ => ?_)
    · rw [eqv_nil]
      cases x <;> rfl
    · have hx : x ≠ [] := by simpa using hc rfl
      have hx1 : 1 ≤ x.length := List.length_pos_iff.mpr hx
      refine q_asgX (P := fun o : Str => IsWord o) (f := rStr) (EV.up (ev_callH (h := hL (x.map rStr)) (R := rEx (fun r : Rep => r ∈ x.map rStr) fun r => r) rfl flat_c rfl List.mem_cons_self (strs_ni hx) (flat_ex fun r hr => by
        obtain ⟨s, _, rfl⟩ := List.mem_map.mp hr
        exact flat_c) (Or.inl ⟨a, x.map rStr, hb, by rw [List.length_map]; omega, by rw [List.length_map]; omega, rfl, rfl⟩)) ?_) fun o ho => ?_
      · rintro v M ⟨r, hr, hv⟩
        obtain ⟨s, hs, rfl⟩ := List.mem_map.mp hr
        exact ⟨s, wd s hs, hv⟩
      have ol := ho.2.1
      have o1 := ho.1
      refine q_asgX (ev_draw hb (n := ((o.length : Nat) : Int)) (by omega) (by omega) (ev_var rfl) (ev_lenS (ev_var rfl) (by omega))) fun at_ hat => ?_
      refine w_asgX (P := IsWord) (f := rStr) (ev_sliceSX (Pz := fun s => Lt s ∧ 1 ≤ s.length) (Pl := fun o => o = none) (Ph := fun h => ∃ i, h = some i ∧ i = 6) (ev_opV (Ra := rEx (fun s => (∀ c ∈ s.cps.toList, c ∈ abc) ∧ 1 ≤ s.length ∧ s.length ≤ 7) rStr) (Rb := rEx (fun s => (∀ c ∈ s.cps.toList, c ∈ abc) ∧ s.length ≤ 6) rStr) (ev_opV (Ra := rEx (fun s => (∀ c ∈ s.cps.toList, c ∈ abc) ∧ s.length ≤ 6) rStr) (Rb := rEx (fun s => (∀ c ∈ s.cps.toList, c ∈ abc) ∧ s.length = 1) rStr) (ev_sliceS (Pl := fun _ => True) (Ph := fun _ => True) (ev_var rfl) (by omega) (fun S σ H s Q q => q none H (Fr.refl s.ok) True.intro) (fun S σ H s Q q => (eo_some (P := fun _ => True) (ev_z (ev_var rfl) True.intro)) S σ H s Q fun v H' f _ => q v H' f True.intro) ?_) (ev_sliceS (Pl := fun o => o = none) (Ph := fun h => ∃ i, h = some i ∧ i = 1) (ev_var rfl) (by have := hz.2.1; omega) eo_none (eo_some (P := fun i => i = 1) (ev_z ev_c rfl)) ?_) ?_) (ev_sliceS (Pl := fun _ => True) (Ph := fun _ => True) (ev_var rfl) (by omega) (fun S σ H s Q q => (eo_some (P := fun _ => True) (ev_opV (ev_var rfl) (ev_draw hb (by decide) (by decide) (ev_var rfl) ev_c) (rv_exR fun n _ => rv_up (R' := rZ fun _ => True) rv_I0 fun v M h => ⟨_, True.intro, h⟩))) S σ H s Q fun v H' f _ => q v H' f True.intro) (fun S σ H s Q q => q none H (Fr.refl s.ok) True.intro) ?_) ?_) ?_ eo_none (eo_some (P := fun i => i = 6) (ev_z ev_c rfl)) ?_) fun w' hw' => ?_
      · intro lo hi _ _
        have h1 := cut_part ⟨ho.2.2, ol⟩ lo hi
        exact h1
      · rintro lo hi rfl ⟨i, rfl, rfl⟩
        refine ⟨(cut_part ⟨hz.2.2, hz.2.1⟩ none (some 1)).1, ?_⟩
        have hz1 := hz.1
        rw [len_toList, cutS_toList, List.length_take, List.length_drop, ← len_toList, HT.sIx_none, show (1 : Int) = ((1 : Nat) : Int) from rfl, HT.sIx_nat]
        omega
      · refine rv_exL fun s1 h1 => rv_exR fun s2 h2 => rv_up (rv_catS (by omega)) fun v M h => ⟨s1 ++ s2, ⟨fun c hc => ?_, by rw [app_len]; omega, by rw [app_len]; omega⟩, h⟩
        rw [app_toList] at hc
        exact (List.mem_append.mp hc).elim (h1.1 c) (h2.1 c)
      · intro lo hi _ _
        exact cut_part ⟨ho.2.2, ol⟩ lo hi
      · refine rv_exL fun s1 h1 => rv_exR fun s2 h2 => rv_up (R' := rEx (fun s => Lt s ∧ 1 ≤ s.length) rStr) (rv_catS (by omega)) fun v M h => ⟨s1 ++ s2, ⟨⟨fun c hc => ?_, by rw [app_len]; omega⟩, by rw [app_len]; omega⟩, h⟩
        rw [app_toList] at hc
        exact (List.mem_append.mp hc).elim (h1.1 c) (h2.1 c)
      · intro s h
        have := h.1.2
        omega
      · rintro s lo hi ⟨hs, h1⟩ rfl ⟨i, rfl, rfl⟩
        have hl := (lt_cut hs none (some 6)).1
        have e : (cutS s none (some 6)).length = min 6 s.length := by
          rw [len_toList, cutS_toList, List.length_take, List.length_drop, ← len_toList, HT.sIx_none, show (6 : Int) = ((6 : Nat) : Int) from rfl, HT.sIx_nat]
          omega
        exact ⟨by omega, by omega, hl⟩
      · dsimp only
        exact rest w' _ hw' (by exact ⟨rfl, rfl, rfl, rfl, True.intro⟩)
    · exact rest z _ hz (by exact ⟨rfl, rfl, rfl, rfl, True.intro⟩)
  · rintro x ⟨nd, wd, hl⟩
    rw [List.length_range] at hl
    refine n_cool 0 2 rfl rfl ?_
    exact w_ret (EV.up (ev_var rfl) (R' := rEx (fun ns : List Str => ns.Nodup ∧ (∀ s ∈ ns, IsWord s) ∧ ns.length = n.toNat) rStrs) fun v M h => ⟨x, ⟨nd, wd, hl⟩, h⟩) k

end
end K9W
end
section
set_option Elab.async false
set_option linter.all false
set_option maxRecDepth 100000
set_option maxHeartbeats 4000000
namespace K9W
open PySem PySem.Spec PyProof.Rows L2 L2.K9R L2.K9A K9 K9M
open C8 (Cal Met pe_c pe_mt pe_mt0 InsC call_isC pe_gc)
section
variable {P : Program} {w : World} {K : PySem.W.Frag} {hp : Heap} {mg : Str → Option Value} {base : Heap}

/-- the map's names, sorted -/
structure Names (rows : Rows) (ns : List Str) : Prop where
  nd : ns.Nodup
  mem : ∀ z, z ∈ ns ↔ ∃ r ∈ rows, z ∈ r
  srt : sortedS ns = true
theorem flat_len {n : Nat} : ∀ {rows : Rows}, (∀ r ∈ rows, r.length = n) → rows.flatten.length = rows.length * n
  | [], _ => by simp
  | r :: rows, h => by
    rw [List.flatten_cons, List.length_append, h r List.mem_cons_self, flat_len fun q hq => h q (List.mem_cons_of_mem _ hq), List.length_cons, Nat.succ_mul, Nat.add_comm]
theorem shape_flat {rows : Rows} (s : Shape rows) : rows.flatten.length ≤ 144 := by
  rw [flat_len s.rect]
  exact Nat.mul_le_mul s.h12 s.w12
theorem shape_ne {rows : Rows} (s : Shape rows) : rows ≠ [] := fun e => by
  have := s.h1
  rw [e] at this
  exact absurd this (by decide)
theorem names_of {rows : Rows} {ys : List Str} (hp : ys.Perm (addAll rows.flatten)) (hs : sortedS ys = true) : Names rows ys :=
  ⟨hp.nodup_iff.mpr (nd_addAll _), fun z => by rw [hp.mem_iff, mem_addAll, List.mem_flatten], hs⟩
def CT_L_law_named : Option Addr → List Rep → Rep → Prop := fun _ rs R => ∃ rows, Shape rows ∧ rs = [rRows rows] ∧ R = rEx (Names rows) rStrs
theorem len_L_law_named : ∀ b rs R, CT_L_law_named b rs R → rs.length = 1 := fun _ _ _ ⟨_, _, e, _⟩ => by rw [e]; rfl
theorem sc_L_law_named : FnScope ["_law_rows", "_law_row"] ["_law_rows"] K9H.d_L_law_named.scope := ⟨rfl, rfl, rfl, by decide +kernel, rfl, by decide +kernel, by decide +kernel⟩
theorem c_L_law_named (X : K.In hp) (G : hp.Ns mainGlobals mg) (c : K9H.Sy K) : Cal P w K mg base 1 "_law_named" (SpD CT_L_law_named) [] := by
  obtain ⟨fd, F⟩ := c.def_ 50 (d := K9H.d_L_law_named) rfl
  have F : FunD K K9H.d_L_law_named.name K9H.d_L_law_named.qual K9H.d_L_law_named.params K9H.d_L_law_named.body K9H.d_L_law_named.scope [] [] _ fd := F
  have T := txt X G c
  have sc := sc_L_law_named
  refine calD F (He.glo_ok X G (c.fact 38 (f := .glo "_law_named") rfl)) (bindsD F fun _ _ _ _ _ _ us hl => match us, hl with | [_], _ => rfl) (fnD (ps := ["_law_rows"]) F sc CT_L_law_named ?_ ?_)
  case refine_1 => exact len_L_law_named
  refine fun cdv A outer s H E hr => ⟨_, (pss_one (ps_ret (pe_callB (id := "sorted") (cr_sortedSetS rfl) (by rfl) T.z_sorted (by decide +kernel) (pa_cons (pe_callTy (T := "set") (cr_setOfS rfl) (by rfl) T.z_set (by decide +kernel) (pa_cons (pe_callB (id := "sum") (cr_sumL rfl) (by rfl) T.z_sum (by decide +kernel) (pa_cons (pe_lc (own := [("_law_row", 1)]) rfl sc.nd (pi_listK (K := K) rfl (pv 0)) (blkOk_by (by kernel_rfl)) (fun _ _ _ _ _ => (pg_name (i := 1) sc.nd rfl (by first | exact Or.inl rfl | exact Or.inr rfl))) (fun _ _ _ _ _ => pts_nil) (fun _ _ _ _ _ => (pe_callTy (T := "list") (call_list_ofK (K := K) rfl) (by rfl) T.z_list (by decide +kernel) (pa_cons (pv 1) pa_nil)))) (pa_cons (pe_lst pa_nil) pa_nil))) pa_nil)) pa_nil)))), fun B Q rs R hC hgs k => ?_⟩
  obtain ⟨rows, s, rfl, rfl⟩ := hC
  have hf := (shape_flat s)
  refine w_ret (EV.up (R' := rEx (Names rows) rStrs) (EN.evX (en_sortedSet (L := addAll rows.flatten) (ev_setOf (ss := rows.flatten) (en_sumL (rows := rows) (shape_ne s) (ev_to (en_lcA rows rStrs (src_list (ev_var rfl)) (fun _ _ => gt_name) (fun _ h => h) (by have := s.h12; omega) (fun r hr => (en_list (ev_var rfl) lat_data).ev)).ev rfl) (by omega)).ev (by omega)))) ?_) k
  rintro v M ⟨ys, ⟨hp, hs⟩, hv⟩
  exact ⟨ys, names_of hp hs, hv⟩
theorem wordB_ok {z : Str} (h : IsWord z) : wordB z = true := by
  unfold wordB
  rw [Bool.and_eq_true, Bool.and_eq_true, decide_eq_true_eq, decide_eq_true_eq, List.all_eq_true]
  refine ⟨⟨by have := h.1; omega, by have := h.2.1; omega⟩, fun x hx => ?_⟩
  obtain ⟨c, hc, rfl⟩ := List.mem_map.mp hx
  exact decide_eq_true (h.2.2 c hc)
def CT_L_law_row_fault : Option Addr → List Rep → Rep → Prop := fun _ rs R => ∃ rows, Good rows ∧ rs = [rRows rows] ∧ R = rNon
theorem len_L_law_row_fault : ∀ b rs R, CT_L_law_row_fault b rs R → rs.length = 1 := fun _ _ _ ⟨_, _, e, _⟩ => by rw [e]; rfl
theorem sc_L_law_row_fault : FnScope ["_law_rows", "_law_at", "_law_name"] ["_law_rows"] K9H.d_L_law_row_fault.scope := ⟨rfl, rfl, rfl, by decide +kernel, rfl, by decide +kernel, by decide +kernel⟩
theorem c_L_law_row_fault (X : K.In hp) (G : hp.Ns mainGlobals mg) (c : K9H.Sy K) : Cal P w K mg base 2 "_law_row_fault" (SpD CT_L_law_row_fault) [] := by
  obtain ⟨fd, F⟩ := c.def_ 53 (d := K9H.d_L_law_row_fault) rfl
  have F : FunD K K9H.d_L_law_row_fault.name K9H.d_L_law_row_fault.qual K9H.d_L_law_row_fault.params K9H.d_L_law_row_fault.body K9H.d_L_law_row_fault.scope [] [] _ fd := F
  have T := txt X G c
  have C_L_law_is_word := c_L_law_is_word (P := P) (w := w) (base := base) X G c
  have sc := sc_L_law_row_fault
  refine calD F (He.glo_ok X G (c.fact 41 (f := .glo "_law_row_fault") rfl)) (bindsD F fun _ _ _ _ _ _ us hl => match us, hl with | [_], _ => rfl) (fnD (ps := ["_law_rows"]) F sc CT_L_law_row_fault ?_ ?_)
  case refine_1 => exact len_L_law_row_fault
  refine fun cdv A outer s H E hr => ⟨_, (pss_cons (ps_if (PW.pt (pw_or (pt_not (pt_val (pe_callB (id := "isinstance") (call_isiTK (K := K) rfl) (by rfl) T.z_isinstance (by decide +kernel) (pa_cons (pv 0) (pa_cons (pe_tup (pa_cons (pe_bltn (v := .ty "list") (by rfl) T.z_list (by decide +kernel) rfl) (pa_cons (pe_bltn (v := .ty "tuple") (by rfl) T.z_tuple (by decide +kernel) rfl) pa_nil))) pa_nil))))) (pw_or1 (pt_not (pt_chain op_le op_le pe_int (pe_callB (id := "len") (call_lenK (K := K) rfl) (by rfl) T.z_len (by decide +kernel) (pa_cons (pv 0) pa_nil)) pe_int)))))
  (pss_one (ps_ret (pe_un un_neg pe_int)))
  pss_nil)
  (pss_cons (ps_for PassesOwn.never rfl (pi_range1 (by rfl) T.z_range (pa_cons (pe_callB (id := "len") (call_lenK (K := K) rfl) (by rfl) T.z_len (by decide +kernel) (pa_cons (pv 0) pa_nil)) pa_nil)) (pg_name (i := 1) sc.nd rfl (by first | exact Or.inl rfl | exact Or.inr rfl))
  (pss_cons (ps_if (PW.pt (pw_or (pt_not (pt_val (pe_callB (id := "isinstance") (call_isiTK (K := K) rfl) (by rfl) T.z_isinstance (by decide +kernel) (pa_cons (pe_ix (ix_listK (K := K) rfl) (pv 0) (pv 1) (fun _ _ => rfl)) (pa_cons (pe_tup (pa_cons (pe_bltn (v := .ty "list") (by rfl) T.z_list (by decide +kernel) rfl) (pa_cons (pe_bltn (v := .ty "tuple") (by rfl) T.z_tuple (by decide +kernel) rfl) pa_nil))) pa_nil))))) (pw_or (pt_not (pt_chain op_le op_le pe_int (pe_callB (id := "len") (call_lenK (K := K) rfl) (by rfl) T.z_len (by decide +kernel) (pa_cons (pe_ix (ix_listK (K := K) rfl) (pv 0) (pv 1) (fun _ _ => rfl)) pa_nil)) pe_int)) (pw_or1 (pt_cmpR op_ne (pe_callB (id := "len") (call_lenK (K := K) rfl) (by rfl) T.z_len (by decide +kernel) (pa_cons (pe_ix (ix_listK (K := K) rfl) (pv 0) (pv 1) (fun _ _ => rfl)) pa_nil)) (pe_callB (id := "len") (call_lenK (K := K) rfl) (by rfl) T.z_len (by decide +kernel) (pa_cons (pe_ix (ix_listK (K := K) rfl) (pv 0) pe_int (fun _ _ => rfl)) pa_nil)) (nomark _))))))
  (pss_one (ps_ret (pv 1)))
  pss_nil)
  (pss_one (ps_if (pt_not (pt_val (pe_callB (id := "all") (cr_allK (K := K) rfl rfl) (by rfl) T.z_all (by decide +kernel) (pa_cons (pe_lc (own := [("_law_name", 2)]) rfl sc.nd (pi_listK (K := K) rfl (pe_ix (ix_listK (K := K) rfl) (pv 0) (pv 1) (fun _ _ => rfl))) (blkOk_by (by kernel_rfl)) (fun _ _ _ _ _ => (pg_name (i := 2) sc.nd rfl (by first | exact Or.inl rfl | exact Or.inr rfl))) (fun _ _ _ _ _ => pts_nil) (fun _ _ _ _ _ => (pe_c C_L_law_is_word hr (by decide) (by rfl) (pa_cons (pv 2) pa_nil)))) pa_nil))))
  (pss_one (ps_ret (pv 1)))
  pss_nil))))
  (pss_one (ps_ret pe_non)))), fun B Q rs R hC hgs k => ?_⟩
  obtain ⟨rows, g, rfl, rfl⟩ := hC
  have s := g.sh
  have h12 := s.h12
  refine q_no (et_to (et_or (et_not (et_B (ev_isiT (c := true) (ev_var rfl) ty_L (by decide +kernel)))) fun _ => et_not (et_test (ev_chain ev_c (ev_nrows (ev_var rfl)) rv_I0 (fun _ => ev_c) fun _ => rv_I0))) ?_) ?_
  · rw [chain12 s.h1 s.h12]
    rfl
  refine q_for (src_range (n := (rows.length : Int)) (ea_cons (ev_nrows (ev_var rfl)) ea_nil) (by omega) (by omega)) (fun (i : Nat) (u : Unit) => True) (fun _ => []) (fun _ => [some (rRows rows), none, none]) () True.intro rfl ⟨rfl, True.intro⟩ (fun _ _ => gt_name) ?_ ?_
  · rintro gs i y _ hy _
    obtain ⟨rfl, hi⟩ := mem_range hy
    have hr : rows[y]? = some rows[y] := List.getElem?_eq_getElem hi
    have hm : rows[y] ∈ rows := List.getElem_mem hi
    generalize rows[y] = r at hr hm
    have hw : r.length = wid rows := s.rect r hm
    refine q_no (et_to (et_or (et_not (et_B (ev_isiT (c := true) (ev_row (ev_var rfl) (ev_var rfl) hr) ty_L (by decide +kernel)))) fun _ => et_or (et_not (et_test (ev_chain ev_c (ev_lenM (ev_row (ev_var rfl) (ev_var rfl) hr) lat_data) rv_I0 (fun _ => ev_c) fun _ => rv_I0))) fun _ => et_test (ev_opV (ev_lenM (ev_row (ev_var rfl) (ev_var rfl) hr) lat_data) (ev_wid s (ev_var rfl)) (rv_ne rfl))) ?_) ?_
    · show (!true || (!(decide ((1 : Int) ≤ (r.length : Nat)) && decide (((r.length : Nat) : Int) ≤ 12)) || !decide (V.int ((r.length : Nat) : Int) = V.int ((wid rows : Nat) : Int)))) = false
      rw [hw, chain12 s.w1 s.w12, decide_eq_true rfl]
      rfl
    refine w_no (et_to (et_not (et_B (ev_cb (ea_cons (ev_to (en_lcA r (fun z => rBl (wordB z)) (src_list (ev_row (ev_var rfl) (ev_var rfl) hr)) (fun _ _ => gt_name) (fun _ h => h) (by have := s.w12; omega) (fun z hz => ev_call (ea_cons (ev_var rfl) ea_nil) ⟨z, by have := (g.wd r hm z hz).2.1; omega, rfl, rfl⟩)).ev ?_) ea_nil) (rc_all (cs := r.map wordB))))) ?_) ?_
    · rw [List.map_map]
      rfl
    · have : (r.map wordB).all id = true := by
        rw [List.all_eq_true]
        intro x hx
        obtain ⟨z, hz, rfl⟩ := List.mem_map.mp hx
        exact wordB_ok (g.wd r hm z hz)
      rw [this]
      rfl
    · dsimp only
      exact n_inv () True.intro rfl (by exact ⟨rfl, True.intro⟩)
  · rintro x _
    exact w_ret ev_c k
/-- some object -/
def rRef : Rep := ⟨fun v _ => ∃ a, v = .ref a, fun _ h => h⟩
theorem ref_T {rs : List Rep} : ∀ v M, (rT rs).P v M → rRef.P v M := fun v M ⟨a, _, e, _⟩ => ⟨a, e⟩
def rOpt (c : Bool) : Rep := if c then rNon else rRef
structure NoFault (rows : Rows) : Prop where
  few : ∃ ns, Names rows ns ∧ ns.length ≤ 12
  conn : ∀ n, (∃ r ∈ rows, n ∈ r) → Conn (· ∈ cellsOf rows n)
def CT_L_law_plat_fault : Option Addr → List Rep → Rep → Prop := fun _ rs R => ∃ rows road, Good rows ∧ road.length ≤ 1000 ∧ rs = [rRows rows, rCells road] ∧ R = rEx (fun c : Bool => c = true → NoFault rows) rOpt
theorem len_L_law_plat_fault : ∀ b rs R, CT_L_law_plat_fault b rs R → rs.length = 2 := fun _ _ _ ⟨_, _, _, _, e, _⟩ => by rw [e]; rfl
theorem cells144 {rows : Rows} (s : Shape rows) (n : Str) : (cellsOf rows n).length ≤ 144 := Nat.le_trans (List.length_filter_le _ _) (allC_144 s.h12 s.w12)
theorem sc_L_law_plat_fault : FnScope ["_law_rows", "_law_road", "_law_at", "_law_names_here", "_law_name", "_law_good"] ["_law_rows", "_law_road"] K9H.d_L_law_plat_fault.scope := ⟨rfl, rfl, rfl, by decide +kernel, rfl, by decide +kernel, by decide +kernel⟩
theorem c_L_law_plat_fault (X : K.In hp) (G : hp.Ns mainGlobals mg) (c : K9H.Sy K) : Cal P w K mg base 3 "_law_plat_fault" (SpD CT_L_law_plat_fault) [] := by
  obtain ⟨fd, F⟩ := c.def_ 54 (d := K9H.d_L_law_plat_fault) rfl
  have F : FunD K K9H.d_L_law_plat_fault.name K9H.d_L_law_plat_fault.qual K9H.d_L_law_plat_fault.params K9H.d_L_law_plat_fault.body K9H.d_L_law_plat_fault.scope [] [] _ fd := F
  have T := txt X G c
  have C_L_law_row_fault := c_L_law_row_fault (P := P) (w := w) (base := base) X G c
  have C_L_law_named := c_L_law_named (P := P) (w := w) (base := base) X G c
  have C_L_law_groups := c_L_law_groups (P := P) (w := w) (base := base) X G c
  have C_L_law_four := c_L_law_four (P := P) (w := w) (base := base) X G c
  have C_L_law_cells_of := c_L_law_cells_of (P := P) (w := w) (base := base) X G c
  have C_L_law_is_spot := c_L_law_is_spot (P := P) (w := w) (base := base) X G c
  have C_L_law_edge := c_L_law_edge (P := P) (w := w) (base := base) X G c
  have sc := sc_L_law_plat_fault
  refine calD F (He.glo_ok X G (c.fact 42 (f := .glo "_law_plat_fault") rfl)) (bindsD F fun _ _ _ _ _ _ us hl => match us, hl with | [_, _], _ => rfl) (fnD (ps := ["_law_rows", "_law_road"]) F sc CT_L_law_plat_fault ?_ ?_)
  case refine_1 => exact len_L_law_plat_fault
  refine fun cdv A outer s H E hr => ⟨_, (pss_cons (ps_set (i := 2) sc.nd rfl (by first | exact Or.inl rfl | exact Or.inr rfl) (pe_c C_L_law_row_fault hr (by decide) (by rfl) (pa_cons (pv 0) pa_nil)))
  (pss_cons (ps_if (pt_cmpR op_notNo (pv 2) pe_non (nomark _))
  (pss_one (ps_ret (pe_tup (pa_cons pe_str (pa_cons (pv 2) pa_nil)))))
  pss_nil)
  (pss_cons (ps_set (i := 3) sc.nd rfl (by first | exact Or.inl rfl | exact Or.inr rfl) (pe_c C_L_law_named hr (by decide) (by rfl) (pa_cons (pv 0) pa_nil)))
  (pss_cons (ps_if (pt_cmpR op_gt (pe_callB (id := "len") (call_lenK (K := K) rfl) (by rfl) T.z_len (by decide +kernel) (pa_cons (pv 3) pa_nil)) pe_int (nomark _))
  (pss_one (ps_ret (pe_tup (pa_cons pe_str (pa_cons pe_int pa_nil)))))
  pss_nil)
  (pss_cons (ps_for PassesOwn.never rfl (pi_listK (K := K) rfl (pv 3)) (pg_name (i := 4) sc.nd rfl (by first | exact Or.inl rfl | exact Or.inr rfl))
  (pss_one (ps_if (pt_cmpR op_gt (pe_callB (id := "len") (call_lenK (K := K) rfl) (by rfl) T.z_len (by decide +kernel) (pa_cons (pe_c C_L_law_groups hr (by decide) (by rfl) (pa_cons (pe_c C_L_law_cells_of hr (by decide) (by rfl) (pa_cons (pv 0) (pa_cons (pv 4) pa_nil))) (pa_cons (pe_c0 C_L_law_four hr (by decide) (by rfl)) pa_nil))) pa_nil)) pe_int (nomark _))
  (pss_one (ps_ret (pe_tup (pa_cons pe_str (pa_cons (pv 4) pa_nil)))))
  pss_nil)))
  (pss_cons (ps_if (pt_not (pt_val (pe_callB (id := "isinstance") (call_isiTK (K := K) rfl) (by rfl) T.z_isinstance (by decide +kernel) (pa_cons (pv 1) (pa_cons (pe_tup (pa_cons (pe_bltn (v := .ty "list") (by rfl) T.z_list (by decide +kernel) rfl) (pa_cons (pe_bltn (v := .ty "tuple") (by rfl) T.z_tuple (by decide +kernel) rfl) pa_nil))) pa_nil)))))
  (pss_one (ps_ret (pe_tup (pa_cons pe_str (pa_cons (pe_un un_neg pe_int) pa_nil)))))
  pss_nil)
  (pss_cons (ps_for PassesOwn.never rfl (pi_range1 (by rfl) T.z_range (pa_cons (pe_callB (id := "len") (call_lenK (K := K) rfl) (by rfl) T.z_len (by decide +kernel) (pa_cons (pv 1) pa_nil)) pa_nil)) (pg_name (i := 2) sc.nd rfl (by first | exact Or.inl rfl | exact Or.inr rfl))
  (pss_cons (ps_set (i := 5) sc.nd rfl (by first | exact Or.inl rfl | exact Or.inr rfl) (pe_and (pe_c C_L_law_is_spot hr (by decide) (by rfl) (pa_cons (pe_ix (ix_listK (K := K) rfl) (pv 1) (pv 2) (fun _ _ => rfl)) pa_nil)) (pe_and (pe_cmpR op_lt (pe_ix (ix_tupK (K := K) rfl) (pe_ix (ix_listK (K := K) rfl) (pv 1) (pv 2) (fun _ _ => rfl)) pe_int (fun _ _ => rfl)) (pe_callB (id := "len") (call_lenK (K := K) rfl) (by rfl) T.z_len (by decide +kernel) (pa_cons (pv 0) pa_nil)) (nomark _)) (pe_and (pe_cmpR op_lt (pe_ix (ix_tupK (K := K) rfl) (pe_ix (ix_listK (K := K) rfl) (pv 1) (pv 2) (fun _ _ => rfl)) pe_int (fun _ _ => rfl)) (pe_callB (id := "len") (call_lenK (K := K) rfl) (by rfl) T.z_len (by decide +kernel) (pa_cons (pe_ix (ix_listK (K := K) rfl) (pv 0) pe_int (fun _ _ => rfl)) pa_nil)) (nomark _)) (pe_one (pe_cmpR (op_notInDK (K := K) (hu65_of hr) rfl) (pe_ix (ix_listK (K := K) rfl) (pv 1) (pv 2) (fun _ _ => rfl)) (pe_slice (sl_listK (K := K) rfl) (pe_callTy (T := "list") (call_list_ofK (K := K) rfl) (by rfl) T.z_list (by decide +kernel) (pa_cons (pv 1) pa_nil)) po_none (po_some (pv 2))) (by rfl)))))))
  (pss_one (ps_if (PW.pt (pw_or (pt_not (pt_val (pv 5))) (pw_or1 (pt_not (pt_val (pe_c C_L_law_edge hr (by decide) (by rfl) (pa_cons (pe_callB (id := "len") (call_lenK (K := K) rfl) (by rfl) T.z_len (by decide +kernel) (pa_cons (pv 0) pa_nil)) (pa_cons (pe_callB (id := "len") (call_lenK (K := K) rfl) (by rfl) T.z_len (by decide +kernel) (pa_cons (pe_ix (ix_listK (K := K) rfl) (pv 0) pe_int (fun _ _ => rfl)) pa_nil)) (pa_cons (pe_ix (ix_listK (K := K) rfl) (pv 1) (pv 2) (fun _ _ => rfl)) pa_nil)))))))))
  (pss_one (ps_ret (pe_tup (pa_cons pe_str (pa_cons (pv 2) pa_nil)))))
  pss_nil))))
  (pss_one (ps_ret pe_non))))))))), fun B Q rs R hC hgs k => ?_⟩
  obtain ⟨rows, road, g, hrl, rfl, rfl⟩ := hC
  have s := g.sh
  have bad : ∀ {B' : Bs} {hs : Hs} {es : Es} {te : TE} {rs : List Rep} {D : Ends}, EV B'.b hs es te (rT rs) → (∀ v H', K9A.Fr B'.b B'.S0 B'.H0 H' → (rEx (fun c : Bool => c = true → NoFault rows) rOpt).P v (msk B'.S0 H') → D.rt v H') → N B' hs es (tRet te D) := fun e k => w_ret (EV.up (R' := rEx (fun c : Bool => c = true → NoFault rows) rOpt) e fun v M h => ⟨false, fun h => (nomatch h), ref_T v M h⟩) k
  refine q_asg (ev_call (ea_cons (ev_var rfl) ea_nil) ⟨rows, g, rfl, rfl⟩) ?_
  refine q_no (et_to (et_test (ev_opV (ev_var rfl) ev_c rv_notNo)) rfl) ?_
  refine q_asgX (ev_call (ea_cons (ev_var rfl) ea_nil) ⟨rows, s, rfl, rfl⟩) fun ns hns => ?_
  have hnl : ns.length ≤ 144 := Nat.le_trans (nd_len hns.nd fun z hz => List.mem_flatten.mpr ((hns.mem z).mp hz)) (shape_flat s)
  refine q_when (c := decide ((12 : Int) < ((ns.length : Nat) : Int))) (et_test (ev_opV (ev_lenM (ev_var rfl) lat_data) ev_c rv_I0)) (fun _ => ?_) (fun h12 => ?_)
  · exact bad (ev_tup (ea_cons ev_c (ea_cons ev_c ea_nil))) k
  have h12 : ns.length ≤ 12 := by
    have := of_decide_eq_false h12
    omega
  refine q_for (ys := ns) (F := rStr) (src_list (ev_var rfl)) (fun (i : Nat) (u : Unit) => ∀ n ∈ ns.take i, Conn (· ∈ cellsOf rows n)) (fun _ => []) (fun _ => [some (rRows rows), some (rCells road), none, none, none, none]) () (fun n h => (by cases h)) rfl ⟨rfl, rfl, True.intro⟩ (fun _ _ => gt_name) ?_ ?_
  · rintro gs i n _ hn hcn
    have h144 := cells144 s n
    refine w_ifX (P := fun c => c = false → Conn (· ∈ cellsOf rows n)) (et_testX (ev_opV (ev_cb (R := rEx (fun m : Int => m ≤ 1 → Conn (· ∈ cellsOf rows n)) rInt) (ea_cons (ev_call (ea_cons (ev_call (ea_cons (ev_var rfl) (ea_cons (ev_var rfl) ea_nil)) ⟨rows, n, s, rfl, rfl⟩) (ea_cons (ev_call ea_nil ⟨rfl, rfl⟩) ea_nil)) ⟨_, nd_cellsOf rows n, by omega, rfl, rfl⟩) ea_nil) (rc_ex fun gr hgr => fun S H vs k ho al Q q => rc_lenL S H vs k ho al Q fun v H' f r => q v H' f ⟨_, fun e => hgr.2.2 ?_, r⟩)) ev_c (rv_exL fun m hm => rv_up rv_I0 fun v M h => ⟨_, fun e => hm ?_, h⟩))) (fun _ => ?_) (fun hc => ?_)
    · rw [List.length_map] at e
      omega
    · have := of_decide_eq_false e
      omega
    · exact bad (ev_tup (ea_cons ev_c (ea_cons (ev_var rfl) ea_nil))) k
    · refine w_next ?_
      dsimp only
      refine n_inv () (fun z hz => ?_) rfl (by exact ⟨rfl, rfl, True.intro⟩)
      rw [take_snoc hn] at hz
      rcases List.mem_append.mp hz with h | h
      · exact hcn z h
      · rw [List.mem_singleton.mp h]
        exact hc rfl
  · rintro _ hcn
    rw [List.take_length] at hcn
    have nf : NoFault rows := ⟨⟨ns, hns, h12⟩, fun n hn => hcn n ((hns.mem n).mpr hn)⟩
    refine q_no (et_to (et_not (et_B (ev_isiT (c := true) (ev_var rfl) ty_L (by decide +kernel)))) rfl) ?_
    refine q_for (src_range (n := (road.length : Int)) (ea_cons (ev_lenM (ev_var rfl) lat_data) ea_nil) (by omega) (by omega)) (fun (i : Nat) (u : Unit) => True) (fun _ => []) (fun _ => [some (rRows rows), some (rCells road), none, none, none, none]) () True.intro rfl ⟨rfl, rfl, True.intro⟩ (fun _ _ => gt_name) ?_ ?_
    · rintro gs i y _ hy _
      obtain ⟨rfl, hi⟩ := mem_range hy
      have hc : road[y]? = some road[y] := List.getElem?_eq_getElem hi
      generalize road[y] = c at hc
      have ec : ∀ {b : Option Addr} {hs : Hs} {es : Es}, es[1]? = some (some (rCells road)) → es[2]? = some (some (rInt (y : Int))) → EV b hs es (tOp (rIxL K) (tVar 1) (tVar 2)) (rCell c) := fun h1 h2 => ev_opV (ev_var h1) (ev_var h2) (rv_ixL lat_data (by omega) (by rw [List.getElem?_map, Int.toNat_natCast, hc]; rfl))
      refine q_asg (R := rBl (spotB c && (decide (c.1 < ((rows.length : Nat) : Int)) && (decide (c.2 < ((wid rows : Nat) : Int)) && !decide (c ∈ road.take y))))) (ev_andV (ev_call (ea_cons (ec rfl rfl) ea_nil) ⟨_, rfl, rfl⟩) fun _ => ev_andV (ev_opV (ev_opV (ec rfl rfl) ev_c (rv_ixT (by decide) rfl)) (ev_nrows (ev_var rfl)) rv_I0) fun _ => ev_andV (ev_opV (ev_opV (ec rfl rfl) ev_c (rv_ixT (by decide) rfl)) (ev_wid s (ev_var rfl)) rv_I0) fun _ => ev_bl (ev_opV (ec rfl rfl) (en_slice (h := hL ((road.take y).map rCell)) (Pl := fun o => o = none) (Ph := fun o => ∃ i, o = some i ∧ i = (y : Int)) (en_list (ev_var rfl) lat_data).ev eo_none (eo_some (P := fun i => i = (y : Int)) (ev_z (ev_var rfl) rfl)) ?_).ev (rv_notInD dp_C dp_Cs ((shp_C c).ok (by decide)) ((shp_Cs (road.take y)).ok (by decide)))) ?_) ?_
      · rintro lo hi' rfl ⟨_, rfl, rfl⟩ vs M al
        refine ⟨vs, rfl, ?_⟩
        unfold cutR at al
        rw [HT.sIx_none, HT.sIx_nat, List.drop_zero, Nat.sub_zero, List.length_map, Nat.min_eq_left (by omega), ← List.map_take] at al
        exact al
      · rw [any_C]
      generalize (spotB c && (decide (c.1 < ((rows.length : Nat) : Int)) && (decide (c.2 < ((wid rows : Nat) : Int)) && !decide (c ∈ road.take y)))) = good
      refine w_if (c := !good || !edgeB (rows.length : Nat) (wid rows : Nat) c) (et_or (et_not (et_B (ev_var rfl))) fun _ => et_not (et_B (ev_call (ea_cons (ev_nrows (ev_var rfl)) (ea_cons (ev_wid s (ev_var rfl)) (ea_cons (ec rfl rfl) ea_nil))) ⟨_, _, _, rfl, rfl⟩))) (fun _ => ?_) (fun _ => ?_)
      · exact bad (ev_tup (ea_cons ev_c (ea_cons (ev_var rfl) ea_nil))) k
      · refine w_next ?_
        dsimp only
        exact n_inv () True.intro rfl (by exact ⟨rfl, rfl, True.intro⟩)
    · rintro _ _
      exact w_ret (EV.up (R' := rEx (fun c : Bool => c = true → NoFault rows) rOpt) ev_c fun v M h => ⟨true, fun _ => nf, h⟩) k

end
end K9W
end
section
set_option Elab.async false
set_option linter.all false
set_option maxRecDepth 100000
set_option maxHeartbeats 4000000
namespace K9W
open PySem PySem.Spec PyProof.Rows L2 L2.K9R L2.K9A K9 K9M
open C8 (Cal Met pe_c pe_mt pe_mt0 InsC call_isC pe_gc)
section
variable {P : Program} {w : World} {K : PySem.W.Frag} {hp : Heap} {mg : Str → Option Value} {base : Heap}

/-- two neighbours' names -/
def PP (rows : Rows) (p : Str × Str) : Prop := p.1 ≠ p.2 ∧ ∃ c d, c ∈ allC rows.length (wid rows) ∧ d ∈ allC rows.length (wid rows) ∧ d ∈ four c ∧ atR rows c = p.1 ∧ atR rows d = p.2
def kp (p : Str × Str) : List Key := [.inr p.1, .inr p.2]
theorem kp_inj {p q : Str × Str} (h : kp p = kp q) : p = q := by
  unfold kp at h
  injection h with h1 h2
  injection h2 with h3 h4
  injection h1 with h1
  injection h3 with h3
  exact Prod.ext h1 h3
def unkp (k : List Key) : Str × Str := match k with
  | [.inr a, .inr b] => (a, b)
  | _ => (⟨#[]⟩, ⟨#[]⟩)
theorem pair_of_key {ps : List (Str × Str)} (k : List Key) (q : Addr) (M : Hp) (hk : k ∈ ps.map kp) (h : M q = some (.tup (k.map kV))) : (rPair (unkp k)).P (.ref q) M := by
  obtain ⟨c, _, rfl⟩ := List.mem_map.mp hk
  exact ⟨q, _, rfl, h, rfl, rfl, True.intro⟩
def CT_L_law_possible : Option Addr → List Rep → Rep → Prop := fun _ rs R => ∃ rows, Good rows ∧ rs = [rRows rows] ∧ R = rEx (fun ps : List (Str × Str) => (∀ p ∈ ps, PP rows p) ∧ ps.length ≤ 576) fun ps => rL (ps.map rPair)
theorem len_L_law_possible : ∀ b rs R, CT_L_law_possible b rs R → rs.length = 1 := fun _ _ _ ⟨_, _, e, _⟩ => by rw [e]; rfl
theorem sides_len (h w : Int) (c : Cell) : (sides h w c).length ≤ 4 := List.length_filter_le _ _
theorem mem_sides {h w : Nat} {c d : Cell} (hd : d ∈ sides h w c) : d ∈ allC h w ∧ d ∈ four c := by
  unfold sides at hd
  rw [List.mem_filter] at hd
  exact ⟨mem_allC'.mpr hd.2, near_iff.mp hd.1⟩
section
variable {b : Option Addr} {hs : Hs} {es : Es} {ta ti tj tc : TE}
theorem ev_atC {rows : Rows} (s : Shape rows) {c : Cell} (hc : c ∈ allC rows.length (wid rows)) (ha : EV b hs es ta (rRows rows)) (hcc : EV b hs es tc (rCell c)) : EV b hs es (tOp (rIxL K) (tOp (rIxL K) ta (tOp (rIxT K) tc (tC (.int 0)))) (tOp (rIxT K) tc (tC (.int 1)))) (rStr (atR rows c)) := by
  obtain ⟨i, j, rfl, hi, hj⟩ := mem_allC.mp hc
  exact ev_at s hi hj ha (ev_opV hcc ev_c (rv_ixT (by decide) rfl)) (ev_opV hcc ev_c (rv_ixT (by decide) rfl))
end
theorem sc_L_law_possible : FnScope ["_law_rows", "_law_found", "_law_cell", "_law_near", "_law_one", "_law_two"] ["_law_rows"] K9H.d_L_law_possible.scope := ⟨rfl, rfl, rfl, by decide +kernel, rfl, by decide +kernel, by decide +kernel⟩
theorem c_L_law_possible (X : K.In hp) (G : hp.Ns mainGlobals mg) (c : K9H.Sy K) : Cal P w K mg base 3 "_law_possible" (SpD CT_L_law_possible) [] := by
  obtain ⟨fd, F⟩ := c.def_ 52 (d := K9H.d_L_law_possible) rfl
  have F : FunD K K9H.d_L_law_possible.name K9H.d_L_law_possible.qual K9H.d_L_law_possible.params K9H.d_L_law_possible.body K9H.d_L_law_possible.scope [] [] _ fd := F
  have T := txt X G c
  have C_L_law_all_cells := c_L_law_all_cells (P := P) (w := w) (base := base) X G c
  have C_L_law_sides := c_L_law_sides (P := P) (w := w) (base := base) X G c
  have sc := sc_L_law_possible
  refine calD F (He.glo_ok X G (c.fact 40 (f := .glo "_law_possible") rfl)) (bindsD F fun _ _ _ _ _ _ us hl => match us, hl with | [_], _ => rfl) (fnD (ps := ["_law_rows"]) F sc CT_L_law_possible ?_ ?_)
  case refine_1 => exact len_L_law_possible
  refine fun cdv A outer s H E hr => ⟨_, (pss_cons (ps_set (i := 1) sc.nd rfl (by first | exact Or.inl rfl | exact Or.inr rfl) pe_dnewT)
  (pss_cons (ps_for PassesOwn.never rfl (pi_listK (K := K) rfl (pe_c C_L_law_all_cells hr (by decide) (by rfl) (pa_cons (pe_callB (id := "len") (call_lenK (K := K) rfl) (by rfl) T.z_len (by decide +kernel) (pa_cons (pv 0) pa_nil)) (pa_cons (pe_callB (id := "len") (call_lenK (K := K) rfl) (by rfl) T.z_len (by decide +kernel) (pa_cons (pe_ix (ix_listK (K := K) rfl) (pv 0) pe_int (fun _ _ => rfl)) pa_nil)) pa_nil)))) (pg_name (i := 2) sc.nd rfl (by first | exact Or.inl rfl | exact Or.inr rfl))
  (pss_one (ps_for PassesOwn.never rfl (pi_listK (K := K) rfl (pe_c C_L_law_sides hr (by decide) (by rfl) (pa_cons (pe_callB (id := "len") (call_lenK (K := K) rfl) (by rfl) T.z_len (by decide +kernel) (pa_cons (pv 0) pa_nil)) (pa_cons (pe_callB (id := "len") (call_lenK (K := K) rfl) (by rfl) T.z_len (by decide +kernel) (pa_cons (pe_ix (ix_listK (K := K) rfl) (pv 0) pe_int (fun _ _ => rfl)) pa_nil)) (pa_cons (pv 2) pa_nil))))) (pg_name (i := 3) sc.nd rfl (by first | exact Or.inl rfl | exact Or.inr rfl))
  (pss_cons (ps_par (i := 4) (j := 5) rfl sc.nd rfl rfl (by decide) rfl rfl (pa_cons (pe_ix (ix_listK (K := K) rfl) (pe_ix (ix_listK (K := K) rfl) (pv 0) (pe_ix (ix_tupK (K := K) rfl) (pv 2) pe_int (fun _ _ => rfl)) (fun _ _ => rfl)) (pe_ix (ix_tupK (K := K) rfl) (pv 2) pe_int (fun _ _ => rfl)) (fun _ _ => rfl)) (pa_cons (pe_ix (ix_listK (K := K) rfl) (pe_ix (ix_listK (K := K) rfl) (pv 0) (pe_ix (ix_tupK (K := K) rfl) (pv 3) pe_int (fun _ _ => rfl)) (fun _ _ => rfl)) (pe_ix (ix_tupK (K := K) rfl) (pv 3) pe_int (fun _ _ => rfl)) (fun _ _ => rfl)) pa_nil)) (by rfl))
  (pss_one (ps_if (pt_cmpR op_ne (pv 4) (pv 5) (nomark _))
  (pss_one (ps_dput (hu_of hr) (pv 1) (pe_tup (pa_cons (pv 4) (pa_cons (pv 5) pa_nil))) pe_bl rfl))
  pss_nil))))))
  (pss_one (ps_ret (pe_callB (id := "sorted") cr_sortedSS (by rfl) T.z_sorted (by decide +kernel) (pa_cons (pe_callTy (T := "list") (call_listT rfl) (by rfl) T.z_list (by decide +kernel) (pa_cons (pv 1) pa_nil)) pa_nil)))))), fun B Q rs R hC hgs k => ?_⟩
  obtain ⟨rows, g, rfl, rfl⟩ := hC
  have s := g.sh
  have a144 := allC_144 s.h12 s.w12
  refine q_new (en_dT' (f := fun _ => rBl true)) fun p => ?_
  refine q_for (ys := allC rows.length (wid rows)) (F := rCell) (src_list (ev_call (ea_cons (ev_nrows (ev_var rfl)) (ea_cons (ev_wid s (ev_var rfl)) ea_nil)) ⟨_, _, s.h12, s.w12, rfl, rfl⟩)) (fun (i : Nat) (x : List (Str × Str)) => (∀ q ∈ x, PP rows q) ∧ x.length ≤ 4 * i) (fun x => [(p, hDT (x.map kp) fun _ => rBl true)]) (fun _ => [some (rRows rows), some (rAt p), none, none, none, none]) [] ⟨fun q h => (by cases h), Nat.zero_le _⟩ rfl ⟨rfl, rfl, True.intro⟩ (fun _ _ => gt_name) ?_ ?_
  · rintro gs i c x hc ⟨hx, hxl⟩
    have hcm : c ∈ allC rows.length (wid rows) := List.mem_of_getElem? hc
    have hil := (List.getElem?_eq_some_iff.mp hc).1
    have h4 := sides_len (rows.length : Int) (wid rows : Int) c
    refine w_for (ys := sides (rows.length : Int) (wid rows : Int) c) (F := rCell) (src_list (ev_call (ea_cons (ev_nrows (ev_var rfl)) (ea_cons (ev_wid s (ev_var rfl)) (ea_cons (ev_var rfl) ea_nil))) ⟨_, _, _, rfl, rfl⟩)) (fun (j : Nat) (y : List (Str × Str)) => (∀ q ∈ y, PP rows q) ∧ y.length ≤ 4 * i + j) (fun x => [(p, hDT (x.map kp) fun _ => rBl true)]) (fun _ => [some (rRows rows), some (rAt p), some (rCell c), none, none, none]) x ⟨hx, by omega⟩ rfl ⟨rfl, rfl, rfl, True.intro⟩ (fun _ _ => gt_name) ?_ ?_
    · rintro gs' j d y hd ⟨hy, hyl⟩
      have hdm := mem_sides (List.mem_of_getElem? hd)
      have hjl := (List.getElem?_eq_some_iff.mp hd).1
      refine q_par (Ra := rStr (atR rows c)) (Rb := rStr (atR rows d)) (ea_cons (ev_atC s hcm (ev_var rfl) (ev_var rfl)) (ea_cons (ev_atC s hdm.1 (ev_var rfl) (ev_var rfl)) ea_nil)) ?_
      refine w_when (c := !decide (V.str (atR rows c) = V.str (atR rows d))) (et_test (ev_opV (ev_var rfl) (ev_var rfl) (rv_ne rfl))) (fun hne => ?_) (fun _ => ?_)
      · have hne : atR rows c ≠ atR rows d := fun e => by
          rw [e, decide_eq_true rfl] at hne
          cases hne
        have hpp : PP rows (atR rows c, atR rows d) := ⟨hne, c, d, hcm, hdm.1, hdm.2, rfl, rfl⟩
        refine w_dput (n := 0) (f' := fun _ => rBl true) (key := kp (atR rows c, atR rows d)) rfl ev_c (ev_var rfl) (ev_tup (ea_cons (ev_var rfl) (ea_cons (ev_var rfl) ea_nil))) key_strs (by rw [List.length_map]; omega) (fun _ _ h => h) (fun _ _ _ _ _ h => h) ?_
        dsimp only
        by_cases hin : kp (atR rows c, atR rows d) ∈ y.map kp
        · refine n_inv y ⟨hy, by omega⟩ ?_ (by exact ⟨rfl, rfl, rfl, True.intro⟩)
          show [(p, hDT _ _)] = _
          rw [if_pos hin]
        · refine n_inv (y ++ [(atR rows c, atR rows d)]) ⟨fun q hq => ?_, by rw [List.length_append]; show y.length + 1 ≤ _; omega⟩ ?_ (by exact ⟨rfl, rfl, rfl, True.intro⟩)
          · rcases List.mem_append.mp hq with h | h
            · exact hy q h
            · rw [List.mem_singleton.mp h]
              exact hpp
          · show [(p, hDT _ _)] = [(p, hDT ((y ++ [_]).map kp) _)]
            rw [if_neg hin, List.map_append]
            rfl
      · dsimp only
        exact n_inv y ⟨hy, by omega⟩ rfl (by exact ⟨rfl, rfl, rfl, True.intro⟩)
    · rintro y ⟨hy, hyl⟩
      dsimp only
      exact n_inv y ⟨hy, by omega⟩ rfl (by exact ⟨rfl, rfl, True.intro⟩)
  · rintro x ⟨hx, hxl⟩
    refine w_ret (EV.up (R' := rEx (fun ps : List (Str × Str) => (∀ p ∈ ps, PP rows p) ∧ ps.length ≤ 576) fun ps => rL (ps.map rPair)) (EN.evX (en_sortedSS (cs := x) (ev_to (en_listT (kr := fun k => rPair (unkp k)) (ev_var rfl) (fun _ => dat_hot List.mem_cons_self) (fun k q M hk h => pair_of_key k q M hk h)).ev ?_) lat_data)) ?_) k
    · show rL _ = rL (x.map rPair)
      rw [List.map_map]
      rfl
    · rintro v M ⟨ds, hp, hv⟩
      exact ⟨ds, ⟨fun q hq => hx q (hp.mem_iff.mp hq), by rw [hp.length_eq]; omega⟩, hv⟩
def Part (own : List Cell) (cs : List Cell) : Prop := cs.Nodup ∧ (∀ c ∈ cs, c ∈ own) ∧ (cs ≠ [] → ∃ x ∈ own, x ∉ cs)
def CT_L_law_part_of : Option Addr → List Rep → Rep → Prop := fun b rs R => ∃ (a : Addr) (own : List Cell), b = some a ∧ own.Nodup ∧ 1 ≤ own.length ∧ own.length ≤ 144 ∧ rs = [rAt a, rCells own] ∧ R = rEx (Part own) rCells
theorem len_L_law_part_of : ∀ b rs R, CT_L_law_part_of b rs R → rs.length = 2 := fun _ _ _ ⟨_, _, _, _, _, _, e, _⟩ => by rw [e]; rfl
def Gd (own fo : List Cell) (c : Cell) : Prop := c ∈ own ∧ c ∉ fo ∧ ∃ x ∈ own, x ∉ fo ∧ x ≠ c
theorem et_up {b : Option Addr} {hs : Hs} {es : Es} {tt : TT} {P P' : Bool → Prop} (h : ET b hs es tt P) (k : ∀ c, P c → P' c) : ET b hs es tt P' := fun S σ H s Q q => h S σ H s Q fun c H' f p => q c H' f (k c p)
theorem sc_L_law_part_of : FnScope ["_law_bag_here", "_law_cells", "_law_found", "_law_turn", "_law_start", "_law_good", "_law_cell", "_law_one"] ["_law_bag_here", "_law_cells"] K9H.d_L_law_part_of.scope := ⟨rfl, rfl, rfl, by decide +kernel, rfl, by decide +kernel, by decide +kernel⟩
theorem c_L_law_part_of (X : K.In hp) (G : hp.Ns mainGlobals mg) (c : K9H.Sy K) : Cal P w K mg base 4 "_law_part_of" (SpD CT_L_law_part_of) [] := by
  obtain ⟨fd, F⟩ := c.def_ 56 (d := K9H.d_L_law_part_of) rfl
  have F : FunD K K9H.d_L_law_part_of.name K9H.d_L_law_part_of.qual K9H.d_L_law_part_of.params K9H.d_L_law_part_of.body K9H.d_L_law_part_of.scope [] [] _ fd := F
  have T := txt X G c
  have C_L_law_draw := c_L_law_draw (P := P) (w := w) (base := base) X G c
  have C_L_law_hangs := c_L_law_hangs (P := P) (w := w) (base := base) X G c
  have sc := sc_L_law_part_of
  refine calD F (He.glo_ok X G (c.fact 44 (f := .glo "_law_part_of") rfl)) (bindsD F fun _ _ _ _ _ _ us hl => match us, hl with | [_, _], _ => rfl) (fnD (ps := ["_law_bag_here", "_law_cells"]) F sc CT_L_law_part_of ?_ ?_)
  case refine_1 => exact len_L_law_part_of
  refine fun cdv A outer s H E hr => ⟨_, (pss_cons (ps_set (i := 2) sc.nd rfl (by first | exact Or.inl rfl | exact Or.inr rfl) (pe_lst pa_nil))
  (pss_cons (ps_for PassesOwn.never rfl (pi_range1 (by rfl) T.z_range (pa_cons (pe_op op_add pe_int (pe_c C_L_law_draw hr (by decide) (by rfl) (pa_cons (pv 0) (pa_cons pe_int pa_nil)))) pa_nil)) (pg_name (i := 3) sc.nd rfl (by first | exact Or.inl rfl | exact Or.inr rfl))
  (pss_cons (ps_set (i := 4) sc.nd rfl (by first | exact Or.inl rfl | exact Or.inr rfl) (pe_c C_L_law_draw hr (by decide) (by rfl) (pa_cons (pv 0) (pa_cons (pe_callB (id := "len") (call_lenK (K := K) rfl) (by rfl) T.z_len (by decide +kernel) (pa_cons (pv 1) pa_nil)) pa_nil))))
  (pss_cons (ps_setLc (i := 5) (own := [("_law_cell", 6)]) rfl sc.nd rfl rfl (sw_true rfl rfl rfl (by decide +kernel)) (pi_listK (K := K) rfl (pe_slice (sl_listK (K := K) rfl) (pe_op op_cat (pe_slice (sl_listK (K := K) rfl) (pv 1) (po_some (pv 4)) po_none) (pe_slice (sl_listK (K := K) rfl) (pv 1) po_none (po_some (pv 4)))) po_none (po_some pe_int))) (blkOk_by (by kernel_rfl)) (fun _ _ _ _ _ => (pg_name (i := 6) sc.nd rfl (by first | exact Or.inl rfl | exact Or.inr rfl))) (fun _ _ _ _ _ => (pts_one (PW.pt (pw_and (pt_cmpR (op_notInDK (K := K) (hu65_of hr) rfl) (pv 6) (pv 2) (by rfl)) (pw_and (pt_val (pe_c C_L_law_hangs hr (by decide) (by rfl) (pa_cons (pe_op op_cat (pv 2) (pe_lst (pa_cons (pv 6) pa_nil))) pa_nil))) (pw_and1 (pt_val (pe_c C_L_law_hangs hr (by decide) (by rfl) (pa_cons (pe_lc (own := [("_law_one", 7)]) rfl sc.nd (pi_listK (K := K) rfl (pv 1)) (blkOk_by (by kernel_rfl)) (fun _ _ _ _ _ => (pg_name (i := 7) sc.nd rfl (by first | exact Or.inl rfl | exact Or.inr rfl))) (fun _ _ _ _ _ => (pts_one (PW.pt (pw_and (pt_cmpR (op_notInDK (K := K) (hu65_of hr) rfl) (pv 7) (pv 2) (by rfl)) (pw_and1 (pt_cmpR (op_neDK (K := K) (hu64_of hr) rfl) (pv 7) (pv 6) (nomark _))))))) (fun _ _ _ _ _ => (pv 7))) pa_nil))))))))) (fun _ _ _ _ _ => (pv 6)))
  (pss_one (ps_set (i := 2) sc.nd rfl (by first | exact Or.inl rfl | exact Or.inr rfl) (pe_op op_cat (pv 2) (pe_slice (sl_listK (K := K) rfl) (pv 5) po_none (po_some pe_int))))))))
  (pss_one (ps_ret (pv 2))))), fun B Q rs R hC hgs k => ?_⟩
  obtain ⟨a, own, hb, nd, h1, hl, rfl, rfl⟩ := hC
  refine q_asg (R := rCells []) (ev_lst ea_nil) ?_
  refine q_forX (src_rangeX (P := fun n => 1 ≤ n ∧ n ≤ 3) (ev_opV ev_c (ev_draw hb (by decide) (by decide) (ev_var rfl) ev_c) (rv_exR fun n hn => rv_up (R' := rZ fun m => 1 ≤ m ∧ m ≤ 3) rv_I0 fun v M h => ⟨1 + n, ⟨by have := hn.1; omega, by have := hn.2; omega⟩, h⟩)) (fun n hn => ⟨by omega, by omega⟩)) fun n hn wi' src => ?_
  refine w_for1 (ys := List.range n.toNat) (F := fun (i : Nat) => rInt (i : Int)) src (fun (i : Nat) (x : List Cell) => Part own x) (fun _ => []) (fun x => [some (rAt a), some (rCells own), some (rCells x), none, none, none, none, none]) [] ⟨List.nodup_nil, fun c h => (by cases h), fun h => absurd rfl h⟩ rfl ⟨rfl, rfl, rfl, True.intro⟩ (fun _ _ => gt_name) ?_ ?_
  · rintro gs i y fo _ ⟨fnd, fsub, frest⟩
    have fl : fo.length ≤ own.length := nd_len fnd fsub
    refine q_asgX (ev_draw hb (n := ((own.length : Nat) : Int)) (by omega) (by omega) (ev_var rfl) (ev_lenM (ev_var rfl) lat_data)) fun st hst => ?_
    have hcut : ∀ c ∈ cutA (cutA own (some st) none ++ cutA own none (some st)) none (some 5), c ∈ own := fun c hc => by
      rcases List.mem_append.mp (mem_cutA hc) with h | h <;> exact mem_cutA h
    have hlen : (cutA own (some st) none ++ cutA own none (some st)).length ≤ 288 := by
      rw [List.length_append]
      have := len_cutA (xs := own) (lo := some st) (hi := none)
      have := len_cutA (xs := own) (lo := none) (hi := some st)
      omega
    refine q_asgX (P := fun ds : List Cell => ∀ c ∈ ds, Gd own fo c) (f := rCells) (EN.evX (P := fun ds : List Cell => ∀ c ∈ ds, Gd own fo c) (f := fun ds : List Cell => hL (ds.map rCell)) (en_lcX (F := rCell) (js := [6]) (f := fun (c : Cell) es => es.set 6 (some (rCell c))) (ys := cutA (cutA own (some st) none ++ cutA own none (some st)) none (some 5)) (src_list (en_cutA (f := rCell) (lo := none) (hi := some 5) (ev_to (ev_opV (en_cutA (f := rCell) (lo := some st) (hi := none) (ev_var rfl) (eo_int (ev_var rfl)) eo_none).ev (en_cutA (f := rCell) (lo := none) (hi := some st) (ev_var rfl) eo_none (eo_int (ev_var rfl))).ev (rv_cat ?_)) ?_) eo_none (eo_int ev_c)).ev) (fun _ _ => gt_name) (fun _ h => h) (fun i acc => ∃ ds : List Cell, (∀ c ∈ ds, Gd own fo c) ∧ acc = ds.map rCell) ⟨[], fun c h => (by cases h), rfl⟩ ?_ ?_ ?_)) fun ds hds => ?_
    · rw [List.length_map, List.length_map]
      rw [List.length_append] at hlen
      omega
    · show rL _ = rL (List.map rCell (_ ++ _))
      rw [List.map_append]
    · exact Nat.le_trans len_cutA (by omega)
    · rintro i c acc hc ⟨ds, hds, rfl⟩
      have hco := hcut c (List.mem_of_getElem? hc)
      have ht2 : ∀ k : Bool, k = true → True := fun _ _ => True.intro
      refine ⟨fun k => k = true → c ∉ fo ∧ ∃ x ∈ own, x ∉ fo ∧ x ≠ c, rCell c, ?_, fun hk => ⟨ev_var rfl, fun v M hv => ⟨rCell c, hv, ds ++ [c], fun d hd => ?_, by rw [List.map_append]; rfl⟩⟩, fun _ => ⟨ds, hds, rfl⟩⟩
      · refine et_up (et_andG (P1 := fun k => k = true → c ∉ fo) (P2 := fun k => k = true → ∃ x ∈ own, x ∉ fo ∧ x ≠ c) (et_up (et_test (ev_opV (ev_var rfl) (ev_var rfl) (rv_notInD dp_C dp_Cs ((shp_C c).ok (by decide)) ((shp_Cs fo).ok (by decide))))) ?_) (fun hcf => ?_)) ?_
        · rintro k rfl hk
          rw [any_C] at hk
          simpa using hk
        · refine et_up (et_andG (P1 := fun _ => True) (P2 := fun k => k = true → ∃ x ∈ own, x ∉ fo ∧ x ≠ c) (et_up (et_BX (ev_call (ea_cons (ev_to (ev_opV (ev_var rfl) (ev_lst (ea_cons (ev_var rfl) ea_nil)) (rv_cat (rs' := [rCell c]) ?_)) (R' := rCells (fo ++ [c])) ?_) ea_nil) ⟨_, nd_snoc fnd (hcf rfl), ?_, rfl, rfl⟩)) fun _ _ => True.intro) fun _ => et_up (et_BX (ev_call (ea_cons (en_lc own (fun o => !decide (o ∈ fo) && !decide (o = c)) rCell (src_list (ev_var rfl)) (fun _ _ => gt_name) (fun _ h => h) (by omega) (fun o ho => et_to (et_and (et_test (ev_opV (ev_var rfl) (ev_var rfl) (rv_notInD dp_C dp_Cs ((shp_C o).ok (by decide)) ((shp_Cs fo).ok (by decide))))) fun _ => et_test (ev_opV (ev_var rfl) (ev_var rfl) (rv_neD dp_C dp_C ((shp_C o).ok (by decide)) ((shp_C c).ok (by decide))))) ?_) (fun o _ _ => ev_var rfl)).ev ea_nil) ⟨_, nd.filter _, ?_, rfl, rfl⟩)) ?_) ?_
          · rw [List.length_map]
            show fo.length + 1 ≤ _
            omega
          · show rL _ = rL (List.map rCell (_ ++ _))
            rw [List.map_append]
            rfl
          · rw [List.length_append]
            show fo.length + 1 ≤ _
            omega
          · rw [any_C, eqv_C]
          · exact Nat.le_trans (List.length_filter_le _ _) (by omega)
          · rintro k hk e
            have hne := hk e
            obtain ⟨x, hx⟩ := List.exists_mem_of_ne_nil _ hne
            rw [List.mem_filter, Bool.and_eq_true] at hx
            exact ⟨x, hx.1, by simpa using hx.2.1, by simpa using hx.2.2⟩
          · exact fun k hk e => (hk e).2 rfl
        · exact fun k hk e => ⟨(hk e).1 rfl, (hk e).2 rfl⟩
      · rcases List.mem_append.mp hd with h | h
        · exact hds d h
        · rw [List.mem_singleton.mp h]
          exact ⟨hco, hk rfl⟩
    · rintro acc ⟨ds, hds, rfl⟩ o M hh
      exact ⟨ds, hds, hh⟩
    · refine w_asg (R := rCells (fo ++ cutA ds none (some 1))) (ev_to (ev_opV (ev_var rfl) (en_cutA (f := rCell) (lo := none) (hi := some 1) (ev_var rfl) eo_none (eo_int ev_c)).ev (rv_cat ?_)) ?_) ?_
      · have h1 : (cutA ds none (some 1)).length ≤ 1 := by
          unfold cutA
          rw [List.length_take, HT.sIx_none, show (1 : Int) = ((1 : Nat) : Int) from rfl, HT.sIx_nat]
          omega
        rw [List.length_map, List.length_map]
        omega
      · show rL _ = rL (List.map rCell (_ ++ _))
        rw [List.map_append]
      · dsimp only
        refine n_inv (fo ++ cutA ds none (some 1)) ?_ rfl (by exact ⟨rfl, rfl, rfl, True.intro⟩)
        have ec : cutA ds none (some 1) = ds.take 1 := by
          unfold cutA
          rw [HT.sIx_none, show (1 : Int) = ((1 : Nat) : Int) from rfl, HT.sIx_nat, List.drop_zero, Nat.sub_zero]
          cases ds with
          | nil => rfl
          | cons d ds => rw [List.length_cons, Nat.min_eq_left (by omega)]
        rw [ec]
        cases ds with
        | nil =>
          rw [List.take_nil, List.append_nil]
          exact ⟨fnd, fsub, frest⟩
        | cons d ds =>
          obtain ⟨g1, g2, x, x1, x2, x3⟩ := hds d List.mem_cons_self
          refine ⟨nd_snoc fnd g2, fun c hc => ?_, fun _ => ⟨x, x1, fun hx => ?_⟩⟩
          · rcases List.mem_append.mp hc with h | h
            · exact fsub c h
            · rw [List.mem_singleton.mp h]
              exact g1
          · rcases List.mem_append.mp hx with h | h
            · exact x2 h
            · exact x3 (List.mem_singleton.mp h)
  · rintro x hx
    exact w_ret (EV.up (R' := rEx (Part own) rCells) (ev_var rfl) fun v M h => ⟨x, hx, h⟩) k

end
end K9W
end
section
set_option Elab.async false
set_option linter.all false
set_option maxRecDepth 100000
set_option maxHeartbeats 2000000
namespace L2.K9A
open PySem PySem.Spec PyProof.Rows L2 L2.K9R
section
variable {b : Option Addr} {S : List Addr} {hs : Hs} {es : Es} {σ : St} {H H1 H' : Hp} {ta tb tc te ti to tk tv td : TE} {R Ra Rb Rc : Rep} {K : PySem.W.Frag} {h : HRep} {B : Bs} {D : Ends} {T : L2.St → Hp → Prop} {tz : TS} {tar : TA}
/-- a, b = e, a new thing (by a tuple) -/
theorem q_tupN {i j : Nat} (ha : EV B.b hs es ta Ra) (hb : EN B.b hs es tb h) (k : ∀ p, N B ((p, h) :: hs) ((es.set i (some Ra)).set j (some (rAt p))) (tz D)) : N B hs es (tSeq (tAsg (tTup (tCons ta (tCons tb tNil))) (gTup K 2 (gCons (gName i) (gCons (gName j) gNil)))) tz D) := fun σ H s =>
  ha _ σ H s.e _ fun v H1 f1 r1 => hb _ σ H1 (s.mono f1).e _ fun p o H2 f2 ho hh => by
    have s2 := (s.mono f1).add f2 ho hh
    refine ⟨by show 2 ≤ sizeLine; decide, fun t ht => ?_⟩
    have s3 := s2.mono (Fr.new (o := .tup [v, .ref p]) s2.e.ok ht)
    refine ⟨t, [v, .ref p], rfl, st_of upd_same, rfl, v, [.ref p], rfl, .ref p, [], rfl, rfl, ?_⟩
    exact k p _ _ ((s3.set i (Ra.up (msk_new ht) (Ra.up f2.dat r1))).set j (R := rAt p) rfl)
theorem All2.erase {M : Hp} : ∀ {rs : List Rep} {vs : List V} (k : Nat), All2 rs vs M → All2 (rs.eraseIdx k) (vs.eraseIdx k) M
  | [], [], _, _ => True.intro
  | _ :: _, _ :: _, 0, h => h.2
  | _ :: _, _ :: _, k + 1, h => ⟨h.1, All2.erase k h.2⟩
  | [], _ :: _, _, h => h.elim
  | _ :: _, [], _, h => h.elim
theorem eraseIdx_map' {α β : Type} {f : α → β} : ∀ (xs : List α) (k : Nat), (xs.eraseIdx k).map f = (xs.map f).eraseIdx k
  | [], _ => rfl
  | x :: xs, 0 => rfl
  | x :: xs, k + 1 => by
    show f x :: (xs.eraseIdx k).map f = f x :: (xs.map f).eraseIdx k
    rw [eraseIdx_map' xs k]
/-- d[xs.pop(i)] = e; d and xs two of the places -/
theorem w_dputPop {α : Type} {F : α → Rep} {key : α → List Key} {p q : Addr} {n m : Nat} {ks : List (List Key)} {f : List Key → Rep} {f' : α → List Key → Rep} {xs : List α} {P : Int → Prop} (hn : hs[n]? = some (p, hDT ks f)) (hm : hs[m]? = some (q, hL (xs.map F))) (hnm : n ≠ m) (hv : EV B.b hs es tv Rc) (hd : EV B.b hs es td (rAt p)) (ho : EV B.b hs es to (rAt q)) (hi : EV B.b hs es ti (rZ P))
    (hP : ∀ i, P i → 0 ≤ i ∧ i.toNat < xs.length) (hl : xs.length ≤ 100000) (kk : ∀ x ∈ xs, KeyT (F x) (key x)) (hlk : ks.length ≤ 100000) (h1 : ∀ x ∈ xs, ∀ v M, Rc.P v M → (f' x (key x)).P v M) (h2 : ∀ x ∈ xs, ∀ k, k ∈ ks → k ≠ key x → ∀ v M, (f k).P v M → (f' x k).P v M)
    (k : ∀ i x, xs[i]? = some x → N B ((hs.set m (q, hL ((xs.eraseIdx i).map F))).set n (p, hDT (if key x ∈ ks then ks else ks ++ [key x]) (f' x))) es D.nx) : N B hs es (sDPut td (tBM K "list" rPopAt to (tCons ti tNil)) tv D) := fun σ H s =>
  hv _ σ H s.e _ fun v H1 f1 r1 => hd _ σ H1 (s.mono f1).e _ fun x H2 f2 r2 => ho _ σ H2 ((s.mono f1).mono f2).e _ fun y H3 f3 r3 => by
    have s3 := ((s.mono f1).mono f2).mono f3
    obtain ⟨_, _, o3, hq3, vs3, eo3, al3⟩ := s3.e.ht _ (List.mem_of_getElem? hm)
    subst eo3
    refine ⟨by rw [show y = V.ref q from r3]; exact Or.inl ⟨rfl, vs3, sq_of hq3⟩, hi _ σ H3 s3.e _ fun u H4 f4 r4 => ?_⟩
    have s4 := s3.mono f4
    obtain ⟨_, _, o4, hq4, vs4, eo4, al4⟩ := s4.e.ht _ (List.mem_of_getElem? hm)
    subst eo4
    obtain ⟨_, _, o5, hp4, kvs, eo5, e1, e2⟩ := s4.e.ht _ (List.mem_of_getElem? hn)
    subst eo5
    have hq4 : H4 q = some (.lst vs4) := hq4
    have hp4 : H4 p = some (.dT kvs) := hp4
    have hpq : p ≠ q := fun e => by
      rw [e, hq4] at hp4
      cases hp4
    obtain ⟨i, pi, eu⟩ := r4
    obtain ⟨i0, il⟩ := hP i pi
    have hvl : vs4.length = xs.length := by rw [al4.len, List.length_map]
    have hxi : xs[i.toNat]? = some xs[i.toNat] := List.getElem?_eq_getElem il
    have hxm : xs[i.toNat] ∈ xs := List.getElem_mem il
    generalize xs[i.toNat] = c at hxi hxm
    obtain ⟨w, hw, rw'⟩ := al4.get i.toNat (r := F c) (by rw [List.getElem?_map, hxi]; rfl)
    refine ⟨q, vs4, i, i.toNat, w, r3, by rw [show u = V.int i from eu], hq4, by omega, by omega, ?_, hw, ?_⟩
    · have e0 : (if i < 0 then i + (vs4.length : Int) else i) = i := if_neg (by omega)
      have e1' : (decide (0 ≤ i) && decide (i < (vs4.length : Int))) = true := by
        rw [decide_eq_true i0, decide_eq_true (by omega)]
        rfl
      unfold seqIndex?
      simp only [e0, e1', if_true]
    · obtain ⟨kb, ew, hkb⟩ := kk c hxm _ _ rw'
      have s5 := s4.put (h' := hL ((xs.eraseIdx i.toNat).map F)) (o := .lst (vs4.eraseIdx i.toNat)) hm ⟨_, rfl, by rw [eraseIdx_map']; exact al4.erase _⟩
      have hqS : q ∈ B.S hs := (s4.e.ht _ (List.mem_of_getElem? hm)).1
      have hn5 : (hs.set m (q, hL ((xs.eraseIdx i.toNat).map F)))[n]? = some (p, hDT ks f) := by rw [List.getElem?_set_ne (Ne.symm hnm)]; exact hn
      have em : msk (B.S (hs.set m (q, hL ((xs.eraseIdx i.toNat).map F)))) (upd H4 q (.lst (vs4.eraseIdx i.toNat))) = msk (B.S hs) H4 := by rw [S_set hm, msk_upd hqS]
      have hkb4 : H4 kb = some (.tup ((key c).map kV)) := msk_same _ _ hkb
      have hkq : kb ≠ q := fun e => by
        rw [e, hq4] at hkb4
        cases hkb4
      have hlen : kvs.length < sizeLine := by
        have : kvs.length = ks.length := by rw [← e1, List.length_map]
        rw [this]
        exact Nat.lt_of_le_of_lt hlk (by decide)
      refine ⟨p, _, r2, by rw [ew]; exact DPut.t (by rw [upd_ne hpq]; exact hp4) (by rw [upd_ne hkq]; exact hkb4) hlen, k i.toNat c hxi _ _ (s5.put (h' := hDT (if key c ∈ ks then ks else ks ++ [key c]) (f' c)) hn5 ⟨_, rfl, ?_, fun k' v' m' => ?_⟩)⟩
      · subst e1
        exact putK_fst
      · rw [em]
        rcases putK_mem m' with ⟨rfl, rfl⟩ | ⟨n1, m1⟩
        · exact h1 c hxm _ _ (Rc.up ((f2.dat.trans f3.dat).trans f4.dat) r1)
        · exact h2 c hxm k' (by rw [← e1]; exact List.mem_map.mpr ⟨_, m1, rfl⟩) n1 _ _ (e2 _ _ m1)
/-- d[k] = e, e one of several -/
theorem w_dputX {α : Type} {P : α → Prop} {g : α → Rep} {p : Addr} {n : Nat} {ks : List (List Key)} {f : List Key → Rep} {f' : α → List Key → Rep} {key : List Key} (hn : hs[n]? = some (p, hDT ks f)) (hv : EV B.b hs es tv (rEx P g)) (hd : EV B.b hs es td (rAt p)) (hk : EV B.b hs es tk Ra) (kk : KeyT Ra key) (hl : ks.length ≤ 100000)
    (h1 : ∀ z, P z → ∀ v M, (g z).P v M → (f' z key).P v M) (h2 : ∀ z, P z → ∀ k, k ∈ ks → k ≠ key → ∀ v M, (f k).P v M → (f' z k).P v M) (k : ∀ z, P z → N B (hs.set n (p, hDT (if key ∈ ks then ks else ks ++ [key]) (f' z))) es D.nx) : N B hs es (sDPut td tk tv D) := fun σ H s =>
  hv _ σ H s.e _ fun v H1 f1 r1 => hd _ σ H1 (s.mono f1).e _ fun x H2 f2 r2 => hk _ σ H2 ((s.mono f1).mono f2).e _ fun y H3 f3 r3 => by
    obtain ⟨z, pz, r1⟩ := r1
    have s3 := ((s.mono f1).mono f2).mono f3
    obtain ⟨_, _, o, ho, kvs, eo, e1, e2⟩ := s3.e.ht _ (List.mem_of_getElem? hn)
    subst eo
    obtain ⟨c, ey, hc⟩ := kk _ _ r3
    have hlen : kvs.length < sizeLine := by
      have : kvs.length = ks.length := by rw [← e1, List.length_map]
      rw [this]
      exact Nat.lt_of_le_of_lt hl (by decide)
    refine ⟨p, _, r2, by rw [ey]; exact DPut.t ho (msk_same _ _ hc) hlen, k z pz _ _ (s3.put hn ⟨_, rfl, ?_, fun k' v' m => ?_⟩)⟩
    · subst e1
      exact putK_fst
    · rcases putK_mem m with ⟨rfl, rfl⟩ | ⟨n1, m1⟩
      · exact h1 z pz _ _ ((g z).up (f2.dat.trans f3.dat) r1)
      · exact h2 z pz k' (by rw [← e1]; exact List.mem_map.mpr ⟨_, m1, rfl⟩) n1 _ _ (e2 _ _ m1)
theorem w_asgGX {α : Type} {P : α → Prop} {f : α → Rep} {g : TG} {js : List Nat} {fe : α → Es → Es} (h : EV B.b hs es te (rEx P f)) (hg : ∀ x, P x → GT B.b g (f x) js (fe x)) (k : ∀ x, P x → N B hs (fe x es) D.nx) : N B hs es (tAsg te g D) := fun σ H s =>
  h _ σ H s.e _ fun v H1 fr r => by
    obtain ⟨x, px, r⟩ := r
    exact hg x px _ es σ H1 v (s.mono fr).e.sl r _ fun σ' s' _ _ => k x px σ' H1 ⟨⟨(s.mono fr).e.ok, s', (s.mono fr).e.ht⟩, s.nd, s.out, (s.mono fr).dat, (s.mono fr).keep, s.bin, (s.mono fr).gh⟩
theorem q_asgGX {α : Type} {P : α → Prop} {f : α → Rep} {g : TG} {js : List Nat} {fe : α → Es → Es} (h : EV B.b hs es te (rEx P f)) (hg : ∀ x, P x → GT B.b g (f x) js (fe x)) (k : ∀ x, P x → N B hs (fe x es) (tz D)) : N B hs es (tSeq (tAsg te g) tz D) := w_asgGX (D := { D with nx := tz D }) h hg k
theorem All2.lastX {α : Type} {P : α → Prop} {f : α → Rep} {M : Hp} : ∀ {Rs : List Rep} {vs : List V}, All2 (Rs ++ [rEx P f]) vs M → ∃ x, P x ∧ All2 (Rs ++ [f x]) vs M
  | [], [], h => h.elim
  | [], v :: vs, h => by
    obtain ⟨⟨x, px, hx⟩, h2⟩ := h
    exact ⟨x, px, hx, h2⟩
  | r :: Rs, [], h => h.elim
  | r :: Rs, v :: vs, h => by
    obtain ⟨x, px, hx⟩ := All2.lastX (Rs := Rs) (vs := vs) h.2
    exact ⟨x, px, h.1, hx⟩
/-- a call whose last argument is one of several -/
theorem ev_callX {α : Type} {P : α → Prop} {f : α → Rep} {C : Option Addr → List Rep → Rep → Prop} {Rs : List Rep} {E : XK} (ha : EA b hs es tar (Rs ++ [rEx P f])) (hc : ∀ x, P x → ∃ Rx : Rep, C b (Rs ++ [f x]) Rx ∧ ∀ v M, Rx.P v M → R.P v M) : EV b hs es (tCall (SpD C) [] E tar) R := fun S σ H s Q q =>
  ha S σ H s _ fun vs H1 f1 r1 => by
    obtain ⟨x, px, r2⟩ := r1.lastX
    obtain ⟨Rx, hx, up⟩ := hc x px
    exact ⟨S, b, _, Rx, f1.ok, by rw [List.append_nil]; exact r2, hx, fun v H' f2 r3 => q v H' (f1.trans f2) (up _ _ r3)⟩
end
end L2.K9A
end
section
set_option Elab.async false
set_option linter.all false
set_option maxRecDepth 100000
set_option maxHeartbeats 4000000
namespace K9W
open PySem PySem.Spec PyProof.Rows L2 L2.K9R L2.K9A K9 K9M
open C8 (Cal Met pe_c pe_mt pe_mt0 InsC call_isC pe_gc)
section
variable {P : Program} {w : World} {K : PySem.W.Frag} {hp : Heap} {mg : Str → Option Value} {base : Heap}

abbrev rMap (q : List Cell × (Cell → Str)) : Rep := rDT (q.1.map ck) (fun k => rStr (q.2 (unck k)))
abbrev hMap (ks : List Cell) (f : Cell → Str) : HRep := hDT (ks.map ck) (fun k => rStr (f (unck k)))
/-- every cell has one of the names, each name's cells hang together -/
def Whole (h w : Nat) (names : List Str) (q : List Cell × (Cell → Str)) : Prop := (∀ c ∈ allC h w, c ∈ q.1 ∧ q.2 c ∈ names) ∧ ∀ n, Conn fun c => c ∈ allC h w ∧ q.2 c = n
def CT_L_law_grown : Option Addr → List Rep → Rep → Prop := fun b rs R => ∃ (a : Addr) (h w : Nat) (names : List Str), b = some a ∧ 1 ≤ h ∧ h ≤ 12 ∧ 1 ≤ w ∧ w ≤ 12 ∧ names.Nodup ∧ (∀ s ∈ names, IsWord s) ∧ 1 ≤ names.length ∧ names.length ≤ 12 ∧ rs = [rAt a, rInt h, rInt w, rStrs names] ∧ R = rEx (Whole h w names) rMap
theorem len_L_law_grown : ∀ b rs R, CT_L_law_grown b rs R → rs.length = 4 := fun _ _ _ ⟨_, _, _, _, _, _, _, _, _, _, _, _, _, e, _⟩ => by rw [e]; rfl
theorem hMap_put {ks : List Cell} {f : Cell → Str} {c : Cell} {n : Str} (h : c ∉ ks) : hDT (if ck c ∈ ks.map ck then ks.map ck else ks.map ck ++ [ck c]) (fun k => rStr (put f c n (unck k))) = hMap (ks ++ [c]) (put f c n) := by
  rw [if_neg (fun q => h (ck_mem.mp q))]
  show _ = hDT ((ks ++ [c]).map ck) _
  rw [List.map_append]
  rfl
theorem eqv_nilS {ss : List Str} : PyData.eqv (pySs ss) (.list []) = decide (ss = []) := by
  unfold pySs
  rw [eqv_nil]
  cases ss <;> rfl
theorem eqv_nilC {cs : List Cell} : PyData.eqv (pyCs cs) (.list []) = decide (cs = []) := by
  unfold pyCs
  rw [eqv_nil]
  cases cs <;> rfl
/-- the cells that are left -/
structure Left (G ks left : List Cell) : Prop where
  nd : left.Nodup
  mem : ∀ c, c ∈ left ↔ c ∈ G ∧ c ∉ ks
theorem Left.len {G ks left : List Cell} (l : Left G ks left) : left.length ≤ G.length := nd_len l.nd fun c hc => ((l.mem c).mp hc).1
theorem sc_L_law_grown : FnScope ["_law_bag_here", "_law_height", "_law_width", "_law_names_here", "_law_cells", "_law_found", "_law_left", "_law_name", "_law_turn", "_law_cell", "_law_near", "_law_one"] ["_law_bag_here", "_law_height", "_law_width", "_law_names_here"] K9H.d_L_law_grown.scope := ⟨rfl, rfl, rfl, by decide +kernel, rfl, by decide +kernel, by decide +kernel⟩
theorem c_L_law_grown (X : K.In hp) (G : hp.Ns mainGlobals mg) (c : K9H.Sy K) : Cal P w K mg base 3 "_law_grown" (SpD CT_L_law_grown) [] := by
  obtain ⟨fd, F⟩ := c.def_ 46 (d := K9H.d_L_law_grown) rfl
  have F : FunD K K9H.d_L_law_grown.name K9H.d_L_law_grown.qual K9H.d_L_law_grown.params K9H.d_L_law_grown.body K9H.d_L_law_grown.scope [] [] _ fd := F
  have T := txt X G c
  have C_L_law_all_cells := c_L_law_all_cells (P := P) (w := w) (base := base) X G c
  have C_L_law_draw := c_L_law_draw (P := P) (w := w) (base := base) X G c
  have C_L_law_sides := c_L_law_sides (P := P) (w := w) (base := base) X G c
  have C_L_law_pick := c_L_law_pick (P := P) (w := w) (base := base) X G c
  have sc := sc_L_law_grown
  refine calD F (He.glo_ok X G (c.fact 34 (f := .glo "_law_grown") rfl)) (bindsD F fun _ _ _ _ _ _ us hl => match us, hl with | [_, _, _, _], _ => rfl) (fnD (ps := ["_law_bag_here", "_law_height", "_law_width", "_law_names_here"]) F sc CT_L_law_grown ?_ ?_)
  case refine_1 => exact len_L_law_grown
  refine fun cdv A outer s H E hr => ⟨_, (pss_cons (ps_asg (pe_tup (pa_cons (pe_c C_L_law_all_cells hr (by decide) (by rfl) (pa_cons (pv 1) (pa_cons (pv 2) pa_nil))) (pa_cons pe_dnewT pa_nil))) (pg_tupK (K := K) (n := 2) rfl rfl (pgs_cons (pg_name (i := 4) sc.nd rfl (by first | exact Or.inl rfl | exact Or.inr rfl)) (pgs_cons (pg_name (i := 5) sc.nd rfl (by first | exact Or.inl rfl | exact Or.inr rfl)) pgs_nil))))
  (pss_cons (ps_set (i := 6) sc.nd rfl (by first | exact Or.inl rfl | exact Or.inr rfl) (pe_callTy (T := "list") (call_list_ofK (K := K) rfl) (by rfl) T.z_list (by decide +kernel) (pa_cons (pv 4) pa_nil)))
  (pss_cons (ps_for PassesOwn.never rfl (pi_listK (K := K) rfl (pv 3)) (pg_name (i := 7) sc.nd rfl (by first | exact Or.inl rfl | exact Or.inr rfl))
  (pss_one (ps_if (pt_cmpR (op_neDK (K := K) (hu64_of hr) rfl) (pv 6) (pe_lst pa_nil) (nomark _))
  (pss_one (ps_dput (hu_of hr) (pv 5) (pe_bm PySem.F.plainAttrs_list PySem.F.slot_list_pop PySem.F.type_list_pop mt_popAt (pv 6) (pa_cons (pe_c C_L_law_draw hr (by decide) (by rfl) (pa_cons (pv 0) (pa_cons (pe_callB (id := "len") (call_lenK (K := K) rfl) (by rfl) T.z_len (by decide +kernel) (pa_cons (pv 6) pa_nil)) pa_nil))) pa_nil)) (pv 7) rfl))
  pss_nil)))
  (pss_cons (ps_for PassesOwn.never rfl (pi_range1 (by rfl) T.z_range (pa_cons (pe_callB (id := "len") (call_lenK (K := K) rfl) (by rfl) T.z_len (by decide +kernel) (pa_cons (pv 4) pa_nil)) pa_nil)) (pg_name (i := 8) sc.nd rfl (by first | exact Or.inl rfl | exact Or.inr rfl))
  (pss_cons (ps_for PassesOwn.never rfl (pi_listK (K := K) rfl (pv 6)) (pg_name (i := 9) sc.nd rfl (by first | exact Or.inl rfl | exact Or.inr rfl))
  (pss_cons (ps_setLc (i := 10) (own := [("_law_one", 11)]) rfl sc.nd rfl rfl (sw_true rfl rfl rfl (by decide +kernel)) (pi_listK (K := K) rfl (pe_c C_L_law_sides hr (by decide) (by rfl) (pa_cons (pv 1) (pa_cons (pv 2) (pa_cons (pv 9) pa_nil))))) (blkOk_by (by kernel_rfl)) (fun _ _ _ _ _ => (pg_name (i := 11) sc.nd rfl (by first | exact Or.inl rfl | exact Or.inr rfl))) (fun _ _ _ _ _ => (pts_one (pt_cmp (pc_din (hu_of hr) (pv 11) (pv 5))))) (fun _ _ _ _ _ => (pe_dget (hu_of hr) (pv 5) (pv 11) (fun _ _ => rfl))))
  (pss_one (ps_if (pt_cmpR (op_neDK (K := K) (hu64_of hr) rfl) (pv 10) (pe_lst pa_nil) (nomark _))
  (pss_one (ps_dput (hu_of hr) (pv 5) (pv 9) (pe_c C_L_law_pick hr (by decide) (by rfl) (pa_cons (pv 0) (pa_cons (pv 10) pa_nil))) rfl))
  pss_nil))))
  (pss_cons (ps_setLc (i := 6) (own := [("_law_cell", 9)]) rfl sc.nd rfl rfl (sw_true rfl rfl rfl (by decide +kernel)) (pi_listK (K := K) rfl (pv 4)) (blkOk_by (by kernel_rfl)) (fun _ _ _ _ _ => (pg_name (i := 9) sc.nd rfl (by first | exact Or.inl rfl | exact Or.inr rfl))) (fun _ _ _ _ _ => (pts_one (pt_cmp (pc_dnotin (hu_of hr) (pv 9) (pv 5))))) (fun _ _ _ _ _ => (pv 9)))
  (pss_one (ps_if (pt_cmpR (op_eqDK (K := K) (hu64_of hr) rfl) (pv 6) (pe_lst pa_nil) (nomark _))
  (pss_one ps_break)
  pss_nil)))))
  (pss_one (ps_ret (pv 5))))))), fun B Q rs R hC hgs k => ?_⟩
  obtain ⟨a, h, w', names, hb, h1, h12, w1, w12, nnd, nwd, n1, n12, rfl, rfl⟩ := hC
  have a144 := allC_144 h12 w12
  have Gnd := nd_allC h w'
  have Gne : (allC h w').length ≠ 0 := by
    rw [allC_len]
    exact Nat.mul_ne_zero (by omega) (by omega)
  generalize hG : allC h w' = G at a144 Gnd Gne
  refine q_tupN (Ra := rCells G) (h := hDT [] (fun k => rStr ((fun _ => (⟨#[]⟩ : Str)) (unck k)))) (ev_call (ea_cons (ev_var rfl) (ea_cons (ev_var rfl) ea_nil)) ⟨h, w', h12, w12, rfl, by rw [hG]⟩) en_dT' fun p => ?_
  refine q_new (en_list (ev_var rfl) lat_data) fun q => ?_
  refine q_for (ys := names) (F := rStr) (src_list (ev_var rfl)) (fun (i : Nat) (x : List Cell × (Cell → Str) × List Cell) => Grow G x.1 x.2.1 ∧ Left G x.1 x.2.2 ∧ (∀ c ∈ x.1, x.2.1 c ∈ names.take i) ∧ (0 < i → x.1 ≠ [])) (fun x => [(q, hL (x.2.2.map rCell)), (p, hMap x.1 x.2.1)]) (fun _ => [some (rAt a), some (rInt h), some (rInt w'), some (rStrs names), some (rCells G), some (rAt p), some (rAt q), none, none, none, none, none]) ([], fun _ => ⟨#[]⟩, G) ⟨⟨List.nodup_nil, fun c h => (by cases h), fun n => conn_none fun c h => (by cases h.1)⟩, ⟨Gnd, fun c => ⟨fun h => ⟨h, fun q => (by cases q)⟩, fun h => h.1⟩⟩, fun c h => (by cases h), fun h => absurd h (Nat.lt_irrefl 0)⟩ rfl ⟨rfl, rfl, rfl, rfl, rfl, rfl, rfl, True.intro⟩ (fun _ _ => gt_name) ?_ ?_
  · rintro gs i n ⟨ks, f, left⟩ hn ⟨gr, lf, fi, _⟩
    have fi : ∀ c ∈ ks, f c ∈ names.take i := fi
    have lf : Left G ks left := lf
    have ll : left.length ≤ G.length := lf.len
    have gr : Grow G ks f := gr
    have kl : ks.length ≤ G.length := nd_len gr.nd gr.sub
    have nn := nd_take nnd hn
    refine w_when (c := !decide (left = [])) (et_to (et_test (ev_opV (ev_var rfl) (ev_lst ea_nil) (rv_neH (dl_lat (lat_hot List.mem_cons_self) (fun c _ => dp_C)) (dl_data dp_nil) ((shp_Cs left).ok (by decide)) ((shp_Cs []).ok (by decide))))) ?_) (fun hne => ?_) (fun hne => ?_)
    · rw [eqv_nil]
      cases left <;> rfl
    · have hne : left ≠ [] := by simpa using hne
      have hl1 : 1 ≤ left.length := List.length_pos_iff.mpr hne
      refine w_dputPop (n := 1) (m := 0) (key := ck) (F := rCell) (xs := left) (f' := fun c k => rStr (put f c n (unck k))) (P := fun i => 0 ≤ i ∧ i < ((left.length : Nat) : Int)) rfl rfl (by decide) (ev_var rfl) (ev_var rfl) (ev_var rfl) (ev_draw hb (by omega) (by omega) (ev_var rfl) (ev_lenM (ev_var rfl) (lat_hot List.mem_cons_self))) (fun i hi => ⟨hi.1, by have := hi.2; omega⟩) (by omega) (fun _ _ => key_cell) (by rw [List.length_map]; show ks.length ≤ _; omega) ?_ ?_ (fun j c hc => ?_)
      · intro c _ v M hv
        show (rStr (put f c n (unck (ck c)))).P v M
        rw [unck_ck, put_same]
        exact hv
      · intro c _ k hk hkc v M hv
        obtain ⟨d, hd, rfl⟩ := List.mem_map.mp hk
        have hdc : d ≠ c := fun e => hkc (by rw [e])
        show (rStr (put f c n (unck (ck d)))).P v M
        rw [unck_ck, put_ne hdc]
        exact hv
      · dsimp only
        have hcl : c ∈ left := List.mem_of_getElem? hc
        obtain ⟨hcG, hck⟩ := (lf.mem c).mp hcl
        have hj := (List.getElem?_eq_some_iff.mp hc).1
        refine n_inv (ks ++ [c], put f c n, left.eraseIdx j) ⟨gr.seed hcG hck fun d hd e => nn (e ▸ fi d hd), ⟨lf.nd.sublist (List.eraseIdx_sublist _ _), fun d => ?_⟩, fun d hd => ?_, fun _ e => absurd (List.append_eq_nil_iff.mp e).2 (fun z => nomatch z)⟩ ?_ (by exact ⟨rfl, rfl, rfl, rfl, rfl, rfl, rfl, True.intro⟩)
        · have hmem : d ∈ left.eraseIdx j ↔ d ∈ left ∧ d ≠ c := by
            rw [List.mem_eraseIdx_iff_getElem?]
            constructor
            · rintro ⟨m, hm, e⟩
              refine ⟨List.mem_of_getElem? e, fun ed => hm ?_⟩
              rw [ed] at e
              exact (List.getElem?_inj (List.getElem?_eq_some_iff.mp e).1 lf.nd).mp (e.trans hc.symm)
            · rintro ⟨hd, hne⟩
              obtain ⟨m, hm⟩ := List.getElem?_of_mem hd
              exact ⟨m, fun e => hne (by rw [e, hc] at hm; exact (Option.some.inj hm).symm), hm⟩
          rw [hmem, lf.mem d, List.mem_append, List.mem_singleton]
          exact ⟨fun h => ⟨h.1.1, fun z => z.elim h.1.2 h.2⟩, fun h => ⟨⟨h.1, fun z => h.2 (.inl z)⟩, fun z => h.2 (.inr z)⟩⟩
        · rw [take_snoc hn]
          by_cases hdc : d = c
          · subst hdc
            show put f d n d ∈ _
            rw [put_same]
            exact List.mem_append_right _ (List.mem_singleton.mpr rfl)
          · show put f c n d ∈ _
            rw [put_ne hdc]
            rcases List.mem_append.mp hd with h | h
            · exact List.mem_append_left _ (fi d h)
            · exact absurd (List.mem_singleton.mp h) hdc
        · show [(q, hL ((left.eraseIdx j).map rCell)), (p, hDT _ _)] = [(q, hL ((left.eraseIdx j).map rCell)), (p, hMap _ _)]
          rw [hMap_put hck]
    · have hnil : left = [] := by simpa using hne
      subst hnil
      dsimp only
      refine n_inv (ks, f, []) ⟨gr, lf, fun c hc => ?_, fun _ e => ?_⟩ rfl (by exact ⟨rfl, rfl, rfl, rfl, rfl, rfl, rfl, True.intro⟩)
      · rw [take_snoc hn]
        exact List.mem_append_left _ (fi c hc)
      · have e : ks = [] := e
        subst e
        cases G with
        | nil => exact Gne rfl
        | cons g G => exact absurd ((lf.mem g).mpr ⟨List.mem_cons_self, fun z => nomatch z⟩) (fun z => nomatch z)
  · rintro ⟨ks, f, left⟩ ⟨gr, lf, fi, kne⟩
    have kne : ks ≠ [] := kne (by omega)
    have gr : Grow G ks f := gr
    have lf : Left G ks left := lf
    have fi : ∀ c ∈ ks, f c ∈ names := fun c hc => List.mem_of_mem_take (fi c hc)
    have ll : left.length ≤ G.length := lf.len
    refine n_cool 0 6 rfl rfl ?_
    show N B [(p, hMap ks f)] [some (rAt a), some (rInt h), some (rInt w'), some (rStrs names), some (rCells G), some (rAt p), some (rCells left), none, none, none, none, none] _
    have fin : ∀ ks f, Grow G ks f → (∀ c ∈ ks, f c ∈ names) → (∀ c ∈ G, c ∈ ks) → N B [(p, hMap ks f)] [some (rAt a), some (rInt h), some (rInt w'), some (rStrs names), some (rCells G), some (rAt p), none, none, none, none, none, none] (tRet (tVar 5) { nx := fun _ H' => Q .non H', rt := Q }) := by
      intro ks f gr fi all
      refine n_cool 0 5 rfl rfl ?_
      refine w_ret (EV.up (R' := rEx (Whole h w' names) rMap) (ev_var rfl) fun v M hv => ⟨(ks, f), ⟨fun c hc => ?_, fun n => ?_⟩, hv⟩) k
      · rw [hG] at hc
        exact ⟨all c hc, fi c (all c hc)⟩
      · refine conn_congr (fun c => ?_) (gr.conn n)
        rw [hG]
        exact ⟨fun h => ⟨gr.sub c h.1, h.2⟩, fun h => ⟨all c h.1, h.2⟩⟩
    refine q_for (src_range (n := (G.length : Int)) (ea_cons (ev_lenM (ev_var rfl) lat_data) ea_nil) (by omega) (by omega)) (fun (t : Nat) (x : List Cell × (Cell → Str) × List Cell) => Grow G x.1 x.2.1 ∧ Left G x.1 x.2.2 ∧ (∀ c ∈ x.1, x.2.1 c ∈ names) ∧ x.1 ≠ [] ∧ x.2.2.length + t ≤ G.length) (fun x => [(p, hMap x.1 x.2.1)]) (fun x => [some (rAt a), some (rInt h), some (rInt w'), some (rStrs names), some (rCells G), some (rAt p), some (rCells x.2.2), none, none, none, none, none]) (ks, f, left) ⟨gr, lf, fi, kne, by show left.length + 0 ≤ _; omega⟩ rfl ⟨rfl, rfl, rfl, rfl, rfl, rfl, rfl, True.intro⟩ (fun _ _ => gt_name) ?_ ?_
    · rintro gs t y ⟨ks0, f0, left⟩ _ ⟨gr0, lf, fi0, kne0, hlen⟩
      have lf : Left G ks0 left := lf
      have hlen : left.length + t ≤ G.length := hlen
      refine q_for (ys := left) (F := rCell) (src_list (ev_var rfl)) (fun (i : Nat) (x : List Cell × (Cell → Str)) => Grow G x.1 x.2 ∧ (∀ c ∈ x.1, x.2 c ∈ names) ∧ (∀ c ∈ ks0, c ∈ x.1) ∧ (∀ c ∈ x.1, c ∈ ks0 ∨ c ∈ left.take i) ∧ ∀ c ∈ left.take i, (∃ d ∈ ks0, c ∈ four d) → c ∈ x.1) (fun x => [(p, hMap x.1 x.2)]) (fun x => [some (rAt a), some (rInt h), some (rInt w'), some (rStrs names), some (rCells G), some (rAt p), some (rCells left), none, none, none, none, none]) (ks0, f0) ⟨gr0, fi0, fun c h => h, fun c h => .inl h, fun c h => (by cases h)⟩ rfl ⟨rfl, rfl, rfl, rfl, rfl, rfl, rfl, True.intro⟩ (fun _ _ => gt_name) ?_ ?_
      · rintro gs' i c ⟨ks, f⟩ hc ⟨gr, fi, sup, sub, got⟩
        have gr : Grow G ks f := gr
        have fi : ∀ c ∈ ks, f c ∈ names := fi
        have sub : ∀ c ∈ ks, c ∈ ks0 ∨ c ∈ left.take i := sub
        have sup : ∀ c ∈ ks0, c ∈ ks := sup
        have got : ∀ c ∈ left.take i, (∃ d ∈ ks0, c ∈ four d) → c ∈ ks := got
        obtain ⟨hcG, hc0⟩ := (lf.mem c).mp (List.mem_of_getElem? hc)
        have hci := nd_take lf.nd hc
        have hck : c ∉ ks := fun z => (sub c z).elim hc0 hci
        have kl : ks.length ≤ G.length := nd_len gr.nd gr.sub
        have s4 := sides_len (h : Int) (w' : Int) c
        refine q_asg (R := rStrs (((sides (h : Int) (w' : Int) c).filter fun d => decide (d ∈ ks)).map f)) (ev_to (en_lc (sides (h : Int) (w' : Int) c) (fun d => decide (d ∈ ks)) (fun d => rStr (f d)) (src_list (ev_call (ea_cons (ev_var rfl) (ea_cons (ev_var rfl) (ea_cons (ev_var rfl) ea_nil))) ⟨_, _, _, rfl, rfl⟩)) (fun _ _ => gt_name) (fun _ h => h) (by omega) (fun d _ => et_to (et_B (ev_din (ev_var rfl) (ev_var rfl) key_cell (fun _ => dat_hot (by first | exact List.mem_cons_self | exact List.mem_cons_of_mem _ List.mem_cons_self | exact List.mem_cons_of_mem _ (List.mem_cons_of_mem _ List.mem_cons_self))))) ck_dec) (fun d _ hd => ev_dget (ev_var rfl) (ev_var rfl) key_cell (fun _ => dat_hot List.mem_cons_self) (ck_mem.mpr (of_decide_eq_true hd)))).ev ?_) ?_
        · show rL _ = rL _
          rw [List.map_map]
          rfl
        refine w_when (c := !decide ((((sides (h : Int) (w' : Int) c).filter fun d => decide (d ∈ ks)).map f) = [])) (et_to (et_test (ev_opV (ev_var rfl) (ev_lst ea_nil) (rv_neD dp_Ss dp_nil ?_ ((shp_Cs []).ok (by decide))))) ?_) (fun hne => ?_) (fun hne => ?_)
        · refine (shp_Ss _ fun s hs => ?_).ok (by decide)
          obtain ⟨d, hd, rfl⟩ := List.mem_map.mp hs
          exact word_ok (nwd _ (fi d (by simpa using (List.mem_filter.mp hd).2)))
        · rw [eqv_nilS]
        · have hne : (((sides (h : Int) (w' : Int) c).filter fun d => decide (d ∈ ks)).map f) ≠ [] := by simpa using hne
          have hl1 := List.length_pos_iff.mpr hne
          have hl4 : (((sides (h : Int) (w' : Int) c).filter fun d => decide (d ∈ ks)).map f).length ≤ 4 := by
            rw [List.length_map]
            exact Nat.le_trans (List.length_filter_le _ _) s4
          refine w_dputX (n := 0) (P := fun n : Str => ∃ d ∈ ks, d ∈ four c ∧ f d = n) (g := rStr) (f' := fun n k => rStr (put f c n (unck k))) (key := ck c) rfl (EV.up (ev_call (ea_cons (ev_var rfl) (ea_cons (ev_var rfl) ea_nil)) (Or.inl ⟨a, _, hb, by rw [List.length_map]; omega, by rw [List.length_map]; omega, rfl, rfl⟩)) ?_) (ev_var rfl) (ev_var rfl) key_cell (by rw [List.length_map]; show ks.length ≤ _; omega) ?_ ?_ (fun n hn => ?_)
          · rintro v M ⟨r, hr, hv⟩
            obtain ⟨n, hn, rfl⟩ := List.mem_map.mp hr
            obtain ⟨d, hd, rfl⟩ := List.mem_map.mp hn
            rw [List.mem_filter] at hd
            exact ⟨f d, ⟨d, by simpa using hd.2, (mem_sides hd.1).2, rfl⟩, hv⟩
          · intro n _ v M hv
            show (rStr (put f c n (unck (ck c)))).P v M
            rw [unck_ck, put_same]
            exact hv
          · intro n _ k hk hkc v M hv
            obtain ⟨d, hd, rfl⟩ := List.mem_map.mp hk
            have hdc : d ≠ c := fun e => hkc (by rw [e])
            show (rStr (put f c n (unck (ck d)))).P v M
            rw [unck_ck, put_ne hdc]
            exact hv
          · obtain ⟨d, hd, hdf, rfl⟩ := hn
            dsimp only
            refine n_inv (ks ++ [c], put f c (f d)) ⟨gr.add hcG hck hd (four_symm hdf), fun e he => ?_, fun e he => List.mem_append_left _ (sup e he), fun e he => ?_, fun e he hx => ?_⟩ ?_ (by exact ⟨rfl, rfl, rfl, rfl, rfl, rfl, rfl, True.intro⟩)
            · by_cases hec : e = c
              · subst hec
                show put f e (f d) e ∈ _
                rw [put_same]
                exact fi d hd
              · show put f c (f d) e ∈ _
                rw [put_ne hec]
                rcases List.mem_append.mp he with h | h
                · exact fi e h
                · exact absurd (List.mem_singleton.mp h) hec
            · rw [take_snoc hc]
              rcases List.mem_append.mp he with h | h
              · exact (sub e h).imp id (List.mem_append_left _)
              · exact .inr (List.mem_append_right _ h)
            · rw [take_snoc hc] at he
              rcases List.mem_append.mp he with h | h
              · exact List.mem_append_left _ (got e h hx)
              · exact List.mem_append_right _ h
            · show [(p, hDT _ _)] = [(p, hMap _ _)]
              rw [hMap_put hck]
        · dsimp only
          refine n_inv (ks, f) ⟨gr, fi, sup, fun d hd => ?_, fun d hd hx => ?_⟩ rfl (by exact ⟨rfl, rfl, rfl, rfl, rfl, rfl, rfl, True.intro⟩)
          · rw [take_snoc hc]
            exact (sub d hd).imp id (List.mem_append_left _)
          · rw [take_snoc hc] at hd
            rcases List.mem_append.mp hd with h1 | h1
            · exact got d h1 hx
            · rw [List.mem_singleton.mp h1] at hx
              obtain ⟨e, he, hef⟩ := hx
              have hnil : (((sides (h : Int) (w' : Int) c).filter fun d => decide (d ∈ ks)).map f) = [] := by simpa using hne
              have hes : e ∈ sides (h : Int) (w' : Int) c := by
                unfold sides
                rw [List.mem_filter]
                refine ⟨near_iff.mpr (four_symm hef), mem_allC'.mp ?_⟩
                rw [hG]
                exact gr0.sub e he
              have hm : f e ∈ (((sides (h : Int) (w' : Int) c).filter fun d => decide (d ∈ ks)).map f) := List.mem_map.mpr ⟨e, List.mem_filter.mpr ⟨hes, by simpa using sup e he⟩, rfl⟩
              rw [hnil] at hm
              cases hm
      · rintro ⟨ks, f⟩ ⟨gr, fi, sup, sub, got⟩
        rw [List.take_length] at sub got
        have gr : Grow G ks f := gr
        have fi : ∀ c ∈ ks, f c ∈ names := fi
        have sup : ∀ c ∈ ks0, c ∈ ks := sup
        have got : ∀ c ∈ left, (∃ d ∈ ks0, c ∈ four d) → c ∈ ks := got
        have lf2 : Left G ks (G.filter fun c => !decide (c ∈ ks)) := ⟨Gnd.filter _, fun c => by rw [List.mem_filter]; simp⟩
        have h144 : (G.filter fun c => !decide (c ∈ ks)).length ≤ G.length := lf2.len
        refine q_asg (R := rCells (G.filter fun c => !decide (c ∈ ks))) (en_lc G (fun c => !decide (c ∈ ks)) rCell (src_list (ev_var rfl)) (fun _ _ => gt_name) (fun _ h => h) (by omega) (fun c _ => et_to (et_B (ev_dnotin (ev_var rfl) (ev_var rfl) key_cell (fun _ => dat_hot (by first | exact List.mem_cons_self | exact List.mem_cons_of_mem _ List.mem_cons_self | exact List.mem_cons_of_mem _ (List.mem_cons_of_mem _ List.mem_cons_self))))) ?_) (fun c _ _ => ev_var rfl)).ev ?_
        · rw [ck_dec]
        generalize hl2 : (G.filter fun c => !decide (c ∈ ks)) = left2 at lf2 h144
        refine w_when (c := decide (left2 = [])) (et_to (et_test (ev_opV (ev_var rfl) (ev_lst ea_nil) (rv_eqD dp_Cs dp_nil ((shp_Cs left2).ok (by decide)) ((shp_Cs []).ok (by decide))))) ?_) (fun hnil => ?_) (fun hne => ?_)
        · rw [eqv_nilC]
        · have hnil : left2 = [] := of_decide_eq_true hnil
          refine w_brk ?_
          dsimp only
          refine n_drop ?_
          rw [Bs.nogs hgs]
          refine n_less (by exact ⟨rfl, rfl, rfl, rfl, rfl, rfl, True.intro⟩) (fin ks f gr fi fun c hc => Classical.byContradiction fun hn => ?_)
          have := (lf2.mem c).mpr ⟨hc, hn⟩
          rw [hnil] at this
          cases this
        · have hne : left2 ≠ [] := of_decide_eq_false hne
          dsimp only
          refine n_inv (ks, f, left2) ⟨gr, lf2, fi, fun e => ?_, ?_⟩ rfl (by exact ⟨rfl, rfl, rfl, rfl, rfl, rfl, rfl, True.intro⟩)
          · have e : ks = [] := e
            cases ks0 with
            | nil => exact kne0 rfl
            | cons d ks0 =>
              have := sup d List.mem_cons_self
              rw [e] at this
              cases this
          · show left2.length + (t + 1) ≤ G.length
            -- some cell that was left has a neighbour: it is given a name
            obtain ⟨c1, hc1⟩ := List.exists_mem_of_ne_nil _ hne
            obtain ⟨hc1G, hc1k⟩ := (lf2.mem c1).mp hc1
            have ex : ∃ c0 ∈ left, ∃ d ∈ ks0, c0 ∈ four d := by
              refine Classical.byContradiction fun hno => ?_
              obtain ⟨d0, hd0⟩ := List.exists_mem_of_ne_nil _ kne0
              have all := grid_closed (h := h) (w := w') (A := fun c => c ∈ ks0) (c0 := d0) (by rw [hG]; exact gr0.sub d0 hd0) hd0 (fun c d _ hcA hdG hdf => Classical.byContradiction fun hn => hno ⟨d, (lf.mem d).mpr ⟨by rw [← hG]; exact hdG, hn⟩, c, hcA, hdf⟩)
              exact hc1k (sup c1 (all c1 (by rw [hG]; exact hc1G)))
            obtain ⟨c0, hc0, hx⟩ := ex
            have hc0k := got c0 hc0 hx
            have hnd : (left2 ++ [c0]).Nodup := nd_snoc lf2.nd fun z => ((lf2.mem c0).mp z).2 hc0k
            have := nd_len (xs := left2 ++ [c0]) (ys := left) hnd fun c hc => by
              rcases List.mem_append.mp hc with h1 | h1
              · obtain ⟨g1, g2⟩ := (lf2.mem c).mp h1
                exact (lf.mem c).mpr ⟨g1, fun z => g2 (sup c z)⟩
              · rw [List.mem_singleton.mp h1]
                exact hc0
            rw [List.length_append] at this
            have : left2.length + 1 ≤ left.length := this
            omega
    · rintro ⟨ks, f, left⟩ ⟨gr, lf, fi, kne, hlen⟩
      have lf : Left G ks left := lf
      rw [List.length_range] at hlen
      have hlen : left.length + (G.length : Int).toNat ≤ G.length := hlen
      have hnil : left = [] := List.length_eq_zero_iff.mp (by omega)
      refine n_less (by exact ⟨rfl, rfl, rfl, rfl, rfl, rfl, True.intro⟩) (fin ks f gr fi fun c hc => Classical.byContradiction fun hn => ?_)
      have := (lf.mem c).mpr ⟨hc, hn⟩
      rw [hnil] at this
      cases this

end
end K9W
end
section
set_option Elab.async false
set_option linter.all false
set_option maxRecDepth 100000
set_option maxHeartbeats 4000000
namespace K9W
open PySem PySem.Spec PyProof.Rows L2 L2.K9R L2.K9A K9 K9M
open C8 (Cal Met pe_c pe_mt pe_mt0 InsC call_isC pe_gc)
section
variable {P : Program} {w : World} {K : PySem.W.Frag} {hp : Heap} {mg : Str → Option Value} {base : Heap}

/-- a map as the law draws it -/
structure GoodMap (rows : Rows) (road : List Cell) : Prop where
  good : Good rows
  few : ∀ ns, Names rows ns → ns.length ≤ 4
  conn : ∀ n, Conn (· ∈ cellsOf rows n)
  road : road.Sublist ((allC rows.length (wid rows)).filter (edgeB (rows.length : Nat) (wid rows : Nat)))
abbrev rParts (q : Rows × List Cell) : Rep := rL [rRows q.1, rCells q.2]
def CT_L_law_map : Option Addr → List Rep → Rep → Prop := fun b rs R => ∃ a : Addr, b = some a ∧ rs = [rAt a, rInt 4] ∧ R = rEx (fun q : Rows × List Cell => GoodMap q.1 q.2) rParts
theorem len_L_law_map : ∀ b rs R, CT_L_law_map b rs R → rs.length = 2 := fun _ _ _ ⟨_, _, e, _⟩ => by rw [e]; rfl
/-- the rows of a function -/
def tab (h w : Nat) (f : Cell → Str) : Rows := (List.range h).map fun (i : Nat) => (List.range w).map fun (j : Nat) => f ((i : Int), (j : Int))
theorem tab_len (h w : Nat) (f : Cell → Str) : (tab h w f).length = h := by
  unfold tab
  rw [List.length_map, List.length_range]
theorem tab_wid {h w : Nat} {f : Cell → Str} (h1 : 1 ≤ h) : wid (tab h w f) = w := by
  unfold wid tab
  cases h with
  | zero => exact absurd h1 (by decide)
  | succ h =>
    rw [List.range_succ_eq_map, List.map_cons, List.headD_cons, List.length_map, List.length_range]
theorem tab_at {h w : Nat} {f : Cell → Str} {c : Cell} (hc : c ∈ allC h w) : atR (tab h w f) c = f c := by
  obtain ⟨i, j, rfl, hi, hj⟩ := mem_allC.mp hc
  unfold atR at? tab
  simp [hi, hj]
theorem mem_tab {h w : Nat} {f : Cell → Str} {z : Str} : (∃ r ∈ tab h w f, z ∈ r) ↔ ∃ c ∈ allC h w, f c = z := by
  unfold tab
  constructor
  · rintro ⟨r, hr, hz⟩
    obtain ⟨i, hi, rfl⟩ := List.mem_map.mp hr
    obtain ⟨j, hj, rfl⟩ := List.mem_map.mp hz
    exact ⟨_, mem_allC.mpr ⟨i, j, rfl, List.mem_range.mp hi, List.mem_range.mp hj⟩, rfl⟩
  · rintro ⟨c, hc, rfl⟩
    obtain ⟨i, j, rfl, hi, hj⟩ := mem_allC.mp hc
    exact ⟨_, List.mem_map.mpr ⟨i, List.mem_range.mpr hi, rfl⟩, List.mem_map.mpr ⟨j, List.mem_range.mpr hj, rfl⟩⟩
theorem tab_shape {h w : Nat} {f : Cell → Str} (h1 : 1 ≤ h) (h2 : h ≤ 12) (w1 : 1 ≤ w) (w2 : w ≤ 12) : Shape (tab h w f) := by
  refine ⟨by rw [tab_len]; exact h1, by rw [tab_len]; exact h2, by rw [tab_wid h1]; exact w1, by rw [tab_wid h1]; exact w2, fun r hr => ?_⟩
  rw [tab_wid h1]
  unfold tab at hr
  obtain ⟨i, _, rfl⟩ := List.mem_map.mp hr
  rw [List.length_map, List.length_range]
theorem goodMap_tab {h w : Nat} {f : Cell → Str} {names : List Str} {road : List Cell} (h1 : 1 ≤ h) (h2 : h ≤ 12) (w1 : 1 ≤ w) (w2 : w ≤ 12) (hf : ∀ c ∈ allC h w, f c ∈ names) (hw : ∀ s ∈ names, IsWord s) (hn : names.length ≤ 4) (cn : ∀ n, Conn fun c => c ∈ allC h w ∧ f c = n)
    (hr : road.Sublist ((allC h w).filter (edgeB (h : Nat) (w : Nat)))) : GoodMap (tab h w f) road := by
  refine ⟨⟨tab_shape h1 h2 w1 w2, fun r hr z hz => ?_⟩, fun ns hns => ?_, fun n => ?_, ?_⟩
  · obtain ⟨c, hc, rfl⟩ := mem_tab.mp ⟨r, hr, hz⟩
    exact hw _ (hf c hc)
  · refine Nat.le_trans (nd_len (ys := names) hns.nd fun z hz => ?_) hn
    obtain ⟨c, hc, rfl⟩ := mem_tab.mp ((hns.mem z).mp hz)
    exact hf c hc
  · refine conn_congr (fun c => ?_) (cn n)
    rw [mem_cellsOf, tab_len, tab_wid h1]
    exact ⟨fun ⟨a, b⟩ => ⟨a, by rw [tab_at a]; exact b⟩, fun ⟨a, b⟩ => ⟨a, by rw [tab_at a] at b; exact b⟩⟩
  · rw [tab_len, tab_wid h1]
    exact hr
theorem sc_L_law_map : FnScope ["_law_bag_here", "_law_most", "_law_height", "_law_width", "_law_found", "_law_rows", "_law_edge_here", "_law_column", "_law_row", "_law_cell"] ["_law_bag_here", "_law_most"] K9H.d_L_law_map.scope := ⟨rfl, rfl, rfl, by decide +kernel, rfl, by decide +kernel, by decide +kernel⟩
theorem c_L_law_map (X : K.In hp) (G : hp.Ns mainGlobals mg) (c : K9H.Sy K) : Cal P w K mg base 5 "_law_map" (SpD CT_L_law_map) [] := by
  obtain ⟨fd, F⟩ := c.def_ 48 (d := K9H.d_L_law_map) rfl
  have F : FunD K K9H.d_L_law_map.name K9H.d_L_law_map.qual K9H.d_L_law_map.params K9H.d_L_law_map.body K9H.d_L_law_map.scope [] [] _ fd := F
  have T := txt X G c
  have C_L_law_sizes := c_L_law_sizes (P := P) (w := w) (base := base) X G c
  have C_L_law_grown := c_L_law_grown (P := P) (w := w) (base := base) X G c
  have C_L_law_names := c_L_law_names (P := P) (w := w) (base := base) X G c
  have C_L_law_draw := c_L_law_draw (P := P) (w := w) (base := base) X G c
  have C_L_law_all_cells := c_L_law_all_cells (P := P) (w := w) (base := base) X G c
  have C_L_law_edge := c_L_law_edge (P := P) (w := w) (base := base) X G c
  have sc := sc_L_law_map
  refine calD F (He.glo_ok X G (c.fact 36 (f := .glo "_law_map") rfl)) (bindsD F fun _ _ _ _ _ _ us hl => match us, hl with | [_, _], _ => rfl) (fnD (ps := ["_law_bag_here", "_law_most"]) F sc CT_L_law_map ?_ ?_)
  case refine_1 => exact len_L_law_map
  refine fun cdv A outer s H E hr => ⟨_, (pss_cons (ps_asg (pe_c C_L_law_sizes hr (by decide) (by rfl) (pa_cons (pv 0) pa_nil)) (pg_tupK (K := K) (n := 2) rfl rfl (pgs_cons (pg_name (i := 2) sc.nd rfl (by first | exact Or.inl rfl | exact Or.inr rfl)) (pgs_cons (pg_name (i := 3) sc.nd rfl (by first | exact Or.inl rfl | exact Or.inr rfl)) pgs_nil))))
  (pss_cons (ps_set (i := 4) sc.nd rfl (by first | exact Or.inl rfl | exact Or.inr rfl) (pe_c C_L_law_grown hr (by decide) (by rfl) (pa_cons (pv 0) (pa_cons (pv 2) (pa_cons (pv 3) (pa_cons (pe_c C_L_law_names hr (by decide) (by rfl) (pa_cons (pv 0) (pa_cons (pe_op op_add pe_int (pe_c C_L_law_draw hr (by decide) (by rfl) (pa_cons (pv 0) (pa_cons (pv 1) pa_nil)))) pa_nil))) pa_nil))))))
  (pss_cons (ps_setLc (i := 5) (own := [("_law_row", 8)]) rfl sc.nd rfl rfl (sw_true rfl rfl rfl (by decide +kernel)) (pi_range1 (by rfl) T.z_range (pa_cons (pv 2) pa_nil)) (blkOk_by (by kernel_rfl)) (fun _ _ _ _ _ => (pg_name (i := 8) sc.nd rfl (by first | exact Or.inl rfl | exact Or.inr rfl))) (fun _ _ _ _ _ => pts_nil) (fun _ _ _ _ _ => (pe_lc (own := [("_law_column", 7)]) rfl sc.nd (pi_range1 (by rfl) T.z_range (pa_cons (pv 3) pa_nil)) (blkOk_by (by kernel_rfl)) (fun _ _ _ _ _ => (pg_name (i := 7) sc.nd rfl (by first | exact Or.inl rfl | exact Or.inr rfl))) (fun _ _ _ _ _ => pts_nil) (fun _ _ _ _ _ => (pe_dget (hu_of hr) (pv 4) (pe_tup (pa_cons (pv 8) (pa_cons (pv 7) pa_nil))) (fun _ _ => rfl))))))
  (pss_cons (ps_setLc (i := 6) (own := [("_law_cell", 9)]) rfl sc.nd rfl rfl (sw_true rfl rfl rfl (by decide +kernel)) (pi_listK (K := K) rfl (pe_c C_L_law_all_cells hr (by decide) (by rfl) (pa_cons (pv 2) (pa_cons (pv 3) pa_nil)))) (blkOk_by (by kernel_rfl)) (fun _ _ _ _ _ => (pg_name (i := 9) sc.nd rfl (by first | exact Or.inl rfl | exact Or.inr rfl))) (fun _ _ _ _ _ => (pts_one (pt_val (pe_c C_L_law_edge hr (by decide) (by rfl) (pa_cons (pv 2) (pa_cons (pv 3) (pa_cons (pv 9) pa_nil))))))) (fun _ _ _ _ _ => (pv 9)))
  (pss_one (ps_ret (pe_lst (pa_cons (pv 5) (pa_cons (pe_lc (own := [("_law_cell", 9)]) rfl sc.nd (pi_listK (K := K) rfl (pv 6)) (blkOk_by (by kernel_rfl)) (fun _ _ _ _ _ => (pg_name (i := 9) sc.nd rfl (by first | exact Or.inl rfl | exact Or.inr rfl))) (fun _ _ _ _ _ => (pts_one (pt_cmpR op_eq (pe_c C_L_law_draw hr (by decide) (by rfl) (pa_cons (pv 0) (pa_cons pe_int pa_nil))) pe_int (nomark _)))) (fun _ _ _ _ _ => (pv 9))) pa_nil))))))))), fun B Q rs R hC hgs k => ?_⟩
  obtain ⟨a, hb, rfl, rfl⟩ := hC
  refine q_asgGX (fe := fun p es => (es.set 2 (some (rInt ((p.1 : Nat) : Int)))).set 3 (some (rInt ((p.2 : Nat) : Int)))) (ev_call (ea_cons (ev_var rfl) ea_nil) ⟨a, hb, rfl, rfl⟩) (fun p _ => gt_tup2 gt_name gt_name) fun p hp => ?_
  obtain ⟨h, w'⟩ := p
  obtain ⟨h1, h12, w1, w12⟩ := hp
  have h1 : 1 ≤ h := h1
  have h12 : h ≤ 12 := h12
  have w1 : 1 ≤ w' := w1
  have w12 : w' ≤ 12 := w12
  have a144 := allC_144 h12 w12
  refine q_asgX (P := fun q => ∃ names : List Str, (∀ s ∈ names, IsWord s) ∧ names.length ≤ 4 ∧ Whole h w' names q) (f := rMap) (ev_callX (Rs := [rAt a, rInt h, rInt w']) (P := fun ns : List Str => ns.Nodup ∧ (∀ s ∈ ns, IsWord s) ∧ 1 ≤ ns.length ∧ ns.length ≤ 4) (f := rStrs) (ea_cons (ev_var rfl) (ea_cons (ev_var rfl) (ea_cons (ev_var rfl) (ea_cons (ev_callX (Rs := [rAt a]) (P := fun n : Int => 1 ≤ n ∧ n ≤ 4) (f := rInt) (ea_cons (ev_var rfl) (ea_cons (ev_opV ev_c (ev_draw hb (n := 4) (by decide) (by decide) (ev_var rfl) (ev_var rfl)) (rv_exR fun n hn => rv_up (R' := rZ fun m => 1 ≤ m ∧ m ≤ 4) rv_I0 fun v M h => ⟨1 + n, ⟨by have := hn.1; omega, by have := hn.2; omega⟩, h⟩)) ea_nil)) ?_) ea_nil)))) ?_) fun q hq => ?_
  · rintro n ⟨n1, n4⟩
    refine ⟨_, ⟨a, n, hb, n1, by omega, rfl, rfl⟩, ?_⟩
    rintro v M ⟨ns, ⟨g1, g2, g3⟩, hv⟩
    exact ⟨ns, ⟨g1, g2, by omega, by omega⟩, hv⟩
  · rintro ns ⟨g1, g2, g3, g4⟩
    refine ⟨_, ⟨a, h, w', ns, hb, h1, h12, w1, w12, g1, g2, g3, by omega, rfl, rfl⟩, ?_⟩
    rintro v M ⟨q, hq, hv⟩
    exact ⟨q, ⟨ns, g2, g4, hq⟩, hv⟩
  obtain ⟨ks, f⟩ := q
  obtain ⟨names, nwd, n4, hall, hcn⟩ := hq
  have hall : ∀ c ∈ allC h w', c ∈ ks ∧ f c ∈ names := hall
  refine q_asg (R := rRows (tab h w' f)) (ev_to (en_lcA (List.range h) (fun i => rStrs ((List.range w').map fun (j : Nat) => f ((i : Int), (j : Int)))) (src_range (n := (h : Int)) (ea_cons (ev_var rfl) ea_nil) (by omega) (by omega)) (fun _ _ => gt_name) (fun _ h => h) (by rw [List.length_range]; omega) (fun i hi => ?_)).ev ?_) ?_
  · have hi := List.mem_range.mp hi
    refine ev_to (en_lcA (List.range w') (fun j => rStr (f ((i : Int), (j : Int)))) (src_range (n := (w' : Int)) (ea_cons (ev_var rfl) ea_nil) (by omega) (by omega)) (fun _ _ => gt_name) (fun _ h => h) (by rw [List.length_range]; omega) (fun j hj => ?_)).ev ?_
    · have hj := List.mem_range.mp hj
      exact ev_dget (f := fun k => rStr (f (unck k))) (k := ck ((i : Int), (j : Int))) (ev_var rfl) (ev_tup (ea_cons (ev_var rfl) (ea_cons (ev_var rfl) ea_nil))) key_ints (fun _ => dat_data) (ck_mem.mpr (hall _ (mem_allC.mpr ⟨i, j, rfl, hi, hj⟩)).1)
    · show rL _ = rL _
      rw [List.map_map]
      rfl
  · show rL _ = rL _
    unfold tab
    rw [List.map_map]
    rfl
  refine q_asg (R := rCells ((allC h w').filter (edgeB (h : Nat) (w' : Nat)))) (en_lc (allC h w') (edgeB (h : Nat) (w' : Nat)) rCell (src_list (ev_call (ea_cons (ev_var rfl) (ea_cons (ev_var rfl) ea_nil)) ⟨_, _, h12, w12, rfl, rfl⟩)) (fun _ _ => gt_name) (fun _ h => h) (by omega) (fun c hc => et_B (ev_call (ea_cons (ev_var rfl) (ea_cons (ev_var rfl) (ea_cons (ev_var rfl) ea_nil))) ⟨_, _, _, rfl, rfl⟩)) (fun c _ _ => ev_var rfl)).ev ?_
  refine w_ret (EV.up (R' := rEx (fun q : Rows × List Cell => GoodMap q.1 q.2) rParts) (ev_lst (ea_cons (ev_var rfl) (ea_cons (EN.evX (P := fun ds : List Cell => ds.Sublist ((allC h w').filter (edgeB (h : Nat) (w' : Nat)))) (f := fun ds : List Cell => hL (ds.map rCell)) (en_lcX (F := rCell) (js := [9]) (f := fun (c : Cell) es => es.set 9 (some (rCell c))) (ys := (allC h w').filter (edgeB (h : Nat) (w' : Nat))) (src_list (ev_var rfl)) (fun _ _ => gt_name) (fun _ h => h) (fun i acc => ∃ ds : List Cell, ds.Sublist (((allC h w').filter (edgeB (h : Nat) (w' : Nat))).take i) ∧ acc = ds.map rCell) ⟨[], List.nil_sublist _, rfl⟩ ?_ ?_ ?_)) ea_nil))) ?_) k
  · exact Nat.le_trans (List.length_filter_le _ _) (by omega)
  · rintro i c acc hc ⟨ds, hds, rfl⟩
    refine ⟨fun _ => True, rCell c, et_testX ((ev_opV (ev_draw hb (by decide) (by decide) (ev_var rfl) ev_c) ev_c (rv_exL fun n _ => rv_up (R' := rEx (fun _ => True) rBl) (rv_eq rfl) fun v M h => ⟨_, True.intro, h⟩))), fun _ => ⟨ev_var rfl, fun v M hv => ⟨rCell c, hv, ds ++ [c], ?_, by rw [List.map_append]; rfl⟩⟩, fun _ => ⟨ds, ?_, rfl⟩⟩
    · rw [take_snoc hc]
      exact List.Sublist.append hds (List.Sublist.refl _)
    · rw [take_snoc hc]
      exact hds.trans (List.sublist_append_left _ _)
  · rintro acc ⟨ds, hds, rfl⟩ o M hh
    rw [List.take_length] at hds
    exact ⟨ds, hds, hh⟩
  · rintro v M ⟨p, o, e1, e2, vs, e3, al⟩
    obtain ⟨x, y, rfl, hx, ds, hds, hy⟩ := all_2 al
    exact ⟨(tab h w' f, ds), goodMap_tab h1 h12 w1 w12 (fun c hc => (hall c hc).2) nwd n4 hcn hds, p, o, e1, e2, [x, y], e3, hx, hy, True.intro⟩

end
end K9W
end
section
set_option Elab.async false
set_option linter.all false
set_option maxRecDepth 100000
set_option maxHeartbeats 2000000
namespace L2.K9A
open PySem PySem.Spec PyProof.Rows L2 L2.K9R
open RZ (ItzT iZipA pi_zipA)
mutual
inductive DV (M : Hp) : V → PyData → Prop
  | int (i : Int) : DV M (.int i) (.int i)
  | str (z : Str) : DV M (.str z) (.str z)
  | bl (c : Bool) : DV M (.bl c) (.bool c)
  | lst {a : Addr} {vs : List V} {ds : List PyData} : M a = some (.lst vs) → DVs M vs ds → DV M (.ref a) (.list ds)
  | tup {a : Addr} {vs : List V} {ds : List PyData} : M a = some (.tup vs) → DVs M vs ds → DV M (.ref a) (.tuple ds)
inductive DVs (M : Hp) : List V → List PyData → Prop
  | nil : DVs M [] []
  | cons {v : V} {d : PyData} {vs : List V} {ds : List PyData} : DV M v d → DVs M vs ds → DVs M (v :: vs) (d :: ds)
end
mutual
theorem DV.up {M M' : Hp} (s : Same M M') : ∀ {v : V} {d : PyData}, DV M v d → DV M' v d
  | _, _, .int i => .int i
  | _, _, .str i => .str i
  | _, _, .bl i => .bl i
  | _, _, .lst h a => .lst (s _ _ h) (DVs.up s a)
  | _, _, .tup h a => .tup (s _ _ h) (DVs.up s a)
theorem DVs.up {M M' : Hp} (s : Same M M') : ∀ {vs : List V} {ds : List PyData}, DVs M vs ds → DVs M' vs ds
  | _, _, .nil => .nil
  | _, _, .cons h t => .cons (DV.up s h) (DVs.up s t)
end
/-- the data d -/
def rD (d : PyData) : Rep := ⟨fun v M => DV M v d, fun s h => h.up s⟩
theorem dvs_all {M : Hp} : ∀ {ds : List PyData} {vs : List V}, DVs M vs ds → All2 (ds.map rD) vs M
  | [], [], _ => True.intro
  | d :: ds, v :: vs, h => by
    cases h with
    | cons h1 h2 => exact ⟨h1, dvs_all h2⟩
  | [], _ :: _, h => by cases h
  | _ :: _, [], h => by cases h
theorem all_dvs {M : Hp} : ∀ {ds : List PyData} {vs : List V}, All2 (ds.map rD) vs M → DVs M vs ds
  | [], [], _ => .nil
  | d :: ds, v :: vs, h => .cons h.1 (all_dvs h.2)
  | [], _ :: _, h => h.elim
  | _ :: _, [], h => h.elim
theorem rD_list {ds : List PyData} : ∀ v M, (rD (.list ds)).P v M → (rL (ds.map rD)).P v M := fun v M h => by
  cases h with
  | lst h a => exact ⟨_, _, rfl, h, _, rfl, dvs_all a⟩
theorem rD_tup {ds : List PyData} : ∀ v M, (rD (.tuple ds)).P v M → (rT (ds.map rD)).P v M := fun v M h => by
  cases h with
  | tup h a => exact ⟨_, _, rfl, h, dvs_all a⟩
theorem rD_int {i : Int} : ∀ v M, (rD (.int i)).P v M → (rInt i).P v M := fun v M h => by
  cases h with
  | int => rfl
theorem rD_str {i : Str} : ∀ v M, (rD (.str i)).P v M → (rStr i).P v M := fun v M h => by
  cases h with
  | str => rfl
theorem rD_bl {i : Bool} : ∀ v M, (rD (.bool i)).P v M → (rBl i).P v M := fun v M h => by
  cases h with
  | bl => rfl
/-- R's values are the data d -/
def Is (R : Rep) (d : PyData) : Prop := ∀ v M, R.P v M → DV M v d
theorem is_int {i : Int} : Is (rInt i) (.int i) := fun v M h => by rw [show v = _ from h]; exact .int i
theorem is_str {i : Str} : Is (rStr i) (.str i) := fun v M h => by rw [show v = _ from h]; exact .str i
theorem is_bl {i : Bool} : Is (rBl i) (.bool i) := fun v M h => by rw [show v = _ from h]; exact .bl i
theorem isAll {α : Type} {f : α → Rep} {g : α → PyData} {M : Hp} : ∀ {xs : List α} {vs : List V}, (∀ x ∈ xs, Is (f x) (g x)) → All2 (xs.map f) vs M → DVs M vs (xs.map g)
  | [], [], _, _ => .nil
  | x :: xs, v :: vs, hfg, h => .cons (hfg x List.mem_cons_self v M h.1) (isAll (fun y hy => hfg y (List.mem_cons_of_mem _ hy)) h.2)
  | [], _ :: _, _, h => h.elim
  | _ :: _, [], _, h => h.elim
theorem is_list {α : Type} {f : α → Rep} {g : α → PyData} {xs : List α} (h : ∀ x ∈ xs, Is (f x) (g x)) : Is (rL (xs.map f)) (.list (xs.map g)) := fun v M q => by
  obtain ⟨a, o, e, ho, vs, eo, al⟩ := q
  subst eo
  rw [e]
  exact .lst ho (isAll h al)
theorem is_C {c : Cel} : Is (rCel c) (pyC c) := fun v M q => by
  obtain ⟨a, vs, e, ho, al⟩ := q
  obtain ⟨x, y, rfl, hx, hy⟩ := all_2 al
  rw [show x = V.int c.1 from hx, show y = V.int c.2 from hy] at ho
  rw [e]
  exact .tup ho (.cons (.int _) (.cons (.int _) .nil))
theorem is_Cs {cs : List Cel} : Is (rL (cs.map rCel)) (pyCs cs) := is_list fun _ _ => is_C
theorem is_Ss {ss : List Str} : Is (rL (ss.map rStr)) (pySs ss) := is_list fun _ _ => is_str
theorem is_Rs {rows : List (List Str)} : Is (rL (rows.map fun r => rL (r.map rStr))) (pyRs rows) := is_list fun _ _ => is_Ss
/-- a display of these -/
def IsL : List Rep → List PyData → Prop
  | [], [] => True
  | R :: Rs, d :: ds => Is R d ∧ IsL Rs ds
  | _, _ => False
theorem isL_all {M : Hp} : ∀ {Rs : List Rep} {ds : List PyData} {vs : List V}, IsL Rs ds → All2 Rs vs M → DVs M vs ds
  | [], [], [], _, _ => .nil
  | R :: Rs, d :: ds, v :: vs, h, a => .cons (h.1 v M a.1) (isL_all h.2 a.2)
  | [], _ :: _, _, h, _ => h.elim
  | _ :: _, [], _, h, _ => h.elim
  | [], [], _ :: _, _, a => a.elim
  | _ :: _, _ :: _, [], _, a => a.elim
theorem is_disp {Rs : List Rep} {ds : List PyData} (h : IsL Rs ds) : Is (rL Rs) (.list ds) := fun v M q => by
  obtain ⟨a, o, e, ho, vs, eo, al⟩ := q
  subst eo
  rw [e]
  exact .lst ho (isL_all h al)
/-! zip of two lists, of two tuples -/
section
variable {b : Option Addr} {S : List Addr} {hs : Hs} {es : Es} {K : PySem.W.Frag} {tar : TA} {Ra Rb : Rep}
theorem walk_zipT {a b : Addr} {xs ys : List V} {n : Nat} (hn : n = min xs.length ys.length) : Walk (ItzT K a b) n (fun H => SqT K H a xs ∧ SqT K H b ys) (YPair (fun i => xs[i]?) (fun i => ys[i]?)) := by
  subst hn
  refine ⟨fun i _ hi q => ?_, fun _ q => ⟨xs, ys, q.1, q.2, by omega⟩, fun i H v H' _ q y => ?_⟩
  · have h1 : i < xs.length := by omega
    have h2 : i < ys.length := by omega
    exact ⟨xs, ys, xs[i], ys[i], q.1, q.2, by simp [h1], by simp [h2]⟩
  · obtain ⟨T, x, z, h1, h2, h3, h4, h5⟩ := y
    exact ⟨T, x, z, h1, h2, h3, h4 xs q.1, h5 ys q.2⟩
theorem src_zip {α : Type} {F : α → Rep} {xs : List α} (hq : (Ra = rL (xs.map F) ∧ Rb = rL (xs.map F)) ∨ (Ra = rT (xs.map F) ∧ Rb = rT (xs.map F))) (ha : EA b hs es tar [Ra, Rb]) : SRC b hs es (iZipA K tar) (xs.map fun x => rT [F x, F x]) := fun S σ H s Rk q => ha S σ H s _ fun vs H1 f r => by
  obtain ⟨v, w, rfl, hv, hw⟩ := all_2 r
  have item : ∀ {ws us : List V} (S' : List Addr) (i : Nat) (R : Rep) (Hx : Hp) (x : V) (Hy : Hp), (xs.map fun x => rT [F x, F x])[i]? = some R → HpOk b S' Hx → (All2 (xs.map F) ws (msk S' Hx) ∧ All2 (xs.map F) us (msk S' Hx)) → YPair (fun i => ws[i]?) (fun i => us[i]?) i Hx x Hy → Fr b S' Hx Hy ∧ R.P x (msk S' Hy) := by
    intro ws us S' i R Hx x Hy hi k hG y
    obtain ⟨T, u1, u2, e1, e2, e3, e4, e5⟩ := y
    subst e1 e3
    rw [List.getElem?_map] at hi
    obtain ⟨z, hz, e⟩ := Option.map_eq_some_iff.mp hi
    subst e
    obtain ⟨w1, hw1, r1⟩ := hG.1.get i (r := F z) (by rw [List.getElem?_map, hz]; rfl)
    obtain ⟨w2, hw2, r2⟩ := hG.2.get i (r := F z) (by rw [List.getElem?_map, hz]; rfl)
    cases (show some u1 = some w1 from e4.symm.trans hw1)
    cases (show some u2 = some w2 from e5.symm.trans hw2)
    exact fr_pair k e2 r1 r2
  rcases hq with ⟨rfl, rfl⟩ | ⟨rfl, rfl⟩
  · obtain ⟨a, ws, e, hva, hS, al⟩ := rL_at hv
    obtain ⟨a', us, e', hva', hS', al'⟩ := rL_at hw
    refine ⟨a, a', ws, us, by rw [e, e'], Or.inl ⟨sq_of hva, sq_of hva', q _ H1 ⟨fun _ M => (M a = some (.lst ws) ∧ M a' = some (.lst us)) ∧ All2 (xs.map F) ws M ∧ All2 (xs.map F) us M, fun s h => ⟨⟨s _ _ h.1.1, s _ _ h.1.2⟩, h.2.1.up s, h.2.2.up s⟩⟩ (YPair (fun i => ws[i]?) (fun i => us[i]?)) f ⟨⟨(msk_out hS).trans hva, (msk_out hS').trans hva'⟩, al, al'⟩ ?_ fun S' i R Hx x Hy hi k hG y => item S' i R Hx x Hy hi k hG.2 y⟩⟩
    have l1 := al.len
    have l2 := al'.len
    rw [List.length_map] at l1 l2 ⊢
    exact (walk_zip (by omega)).mono (fun H ⟨S', h⟩ => ⟨sq_of (msk_same _ _ h.1.1), sq_of (msk_same _ _ h.1.2)⟩) fun _ _ _ _ _ _ h => h
  · obtain ⟨a, ws, e, hva, hS, al⟩ := rT_at hv
    obtain ⟨a', us, e', hva', hS', al'⟩ := rT_at hw
    refine ⟨a, a', ws, us, by rw [e, e'], Or.inr ⟨st_of hva, st_of hva', q _ H1 ⟨fun _ M => (M a = some (.tup ws) ∧ M a' = some (.tup us)) ∧ All2 (xs.map F) ws M ∧ All2 (xs.map F) us M, fun s h => ⟨⟨s _ _ h.1.1, s _ _ h.1.2⟩, h.2.1.up s, h.2.2.up s⟩⟩ (YPair (fun i => ws[i]?) (fun i => us[i]?)) f ⟨⟨(msk_out hS).trans hva, (msk_out hS').trans hva'⟩, al, al'⟩ ?_ fun S' i R Hx x Hy hi k hG y => item S' i R Hx x Hy hi k hG.2 y⟩⟩
    have l1 := al.len
    have l2 := al'.len
    rw [List.length_map] at l1 l2 ⊢
    exact (walk_zipT (by omega)).mono (fun H ⟨S', h⟩ => ⟨st_of (msk_same _ _ h.1.1), st_of (msk_same _ _ h.1.2)⟩) fun _ _ _ _ _ _ h => h
end
end L2.K9A
end
section
set_option Elab.async false
set_option linter.all false
set_option maxRecDepth 100000
set_option maxHeartbeats 4000000
namespace K9W
open PySem PySem.Spec PyProof.Rows L2 L2.K9R L2.K9A K9 K9M
open RZ (pi_zipA)
open C8 (Cal Met pe_c pe_mt pe_mt0 InsC call_isC pe_gc)
section
variable {P : Program} {w : World} {K : PySem.W.Frag} {hp : Heap} {mg : Str → Option Value} {base : Heap}

/-! ### what is the same -/
def CS (Pd : PyData → Prop) : Option Addr → List Rep → Rep → Prop := fun _ rs R => ∃ d, Pd d ∧ rs = [rD d, rD d] ∧ R = rBl true
def UpD (Pd : PyData → Prop) (d : PyData) : Prop := (∃ i, d = .int i) ∨ (∃ z, d = .str z ∧ SeqAt.shaped (.str z) = true) ∨ (∃ c, d = .bool c) ∨ ∃ ds, (d = .list ds ∨ d = .tuple ds) ∧ ds.length ≤ 1000 ∧ ∀ x ∈ ds, Pd x
theorem len_CS {Pd : PyData → Prop} : ∀ b rs R, CS Pd b rs R → rs.length = 2 := fun _ _ _ ⟨_, _, e, _⟩ => by rw [e]; rfl
theorem tyOf {R R' : Rep} {t : Value} (h : TyR K R t) (q : ∀ v M, R'.P v M → R.P v M) : TyR K R' t := fun v M H s h' => h v M H s (q v M h')
theorem dpOf {R R' : Rep} {d : PyData} (h : IsDp K R d) (q : ∀ v M, R'.P v M → R.P v M) : IsDp K R' d := fun v M h' => h v M (q v M h')
theorem allTrue {α : Type} : ∀ (xs : List α), ((xs.map fun _ => true).all id) = true
  | [] => rfl
  | _ :: xs => by rw [List.map_cons, List.all_cons, allTrue xs]; rfl
theorem s_L_law_same {Pd : PyData → Prop} {k : Nat} (X : K.In hp) (G : hp.Ns mainGlobals mg) (c : K9H.Sy K) (C_L_law_same : Cal P w K mg base k "_law_same" (SpD (CS Pd)) []) : Cal P w K mg base (k + 1) "_law_same" (SpD (CS (UpD Pd))) [] := by
  obtain ⟨fd, F⟩ := c.def_ 36 (d := K9H.d_L_law_same) rfl
  have F : FunD K K9H.d_L_law_same.name K9H.d_L_law_same.qual K9H.d_L_law_same.params K9H.d_L_law_same.body K9H.d_L_law_same.scope [] [] _ fd := F
  have T := txt X G c
  have sc : FnScope ["_law_found", "_law_due", "_law_one", "_law_two"] ["_law_found", "_law_due"] K9H.d_L_law_same.scope := ⟨rfl, rfl, rfl, by decide +kernel, rfl, by decide +kernel, by decide +kernel⟩
  refine calD F (He.glo_ok X G (c.fact 24 (f := .glo "_law_same") rfl)) (bindsD F fun _ _ _ _ _ _ us hl => match us, hl with | [_, _], _ => rfl) (fnD (ps := ["_law_found", "_law_due"]) F sc (CS (UpD Pd)) ?_ ?_)
  case refine_1 => exact len_CS
  refine fun cdv A outer s H E hr => ⟨_, (pss_cons (ps_if (pt_val (pe_callB (id := "isinstance") (call_isiTK (K := K) rfl) (by rfl) T.z_isinstance (by decide +kernel) (pa_cons (pv 1) (pa_cons (pe_tup (pa_cons (pe_bltn (v := .ty "list") (by rfl) T.z_list (by decide +kernel) rfl) (pa_cons (pe_bltn (v := .ty "tuple") (by rfl) T.z_tuple (by decide +kernel) rfl) pa_nil))) pa_nil))))
  (pss_cons (ps_if (PW.pt (pw_or (pt_cmpR op_ne (pe_callB (id := "isinstance") (call_isiK (K := K) rfl) (by rfl) T.z_isinstance (by decide +kernel) (pa_cons (pv 0) (pa_cons (pe_bltn (v := .ty "list") (by rfl) T.z_list (by decide +kernel) rfl) pa_nil))) (pe_callB (id := "isinstance") (call_isiK (K := K) rfl) (by rfl) T.z_isinstance (by decide +kernel) (pa_cons (pv 1) (pa_cons (pe_bltn (v := .ty "list") (by rfl) T.z_list (by decide +kernel) rfl) pa_nil))) (nomark _)) (pw_or1 (pt_cmpR op_ne (pe_callB (id := "isinstance") (call_isiK (K := K) rfl) (by rfl) T.z_isinstance (by decide +kernel) (pa_cons (pv 0) (pa_cons (pe_bltn (v := .ty "tuple") (by rfl) T.z_tuple (by decide +kernel) rfl) pa_nil))) (pe_callB (id := "isinstance") (call_isiK (K := K) rfl) (by rfl) T.z_isinstance (by decide +kernel) (pa_cons (pv 1) (pa_cons (pe_bltn (v := .ty "tuple") (by rfl) T.z_tuple (by decide +kernel) rfl) pa_nil))) (nomark _)))))
  (pss_one (ps_ret pe_bl))
  pss_nil)
  (pss_one (ps_ret (pe_and (pe_cmpR op_eq (pe_callB (id := "len") (call_lenK (K := K) rfl) (by rfl) T.z_len (by decide +kernel) (pa_cons (pv 0) pa_nil)) (pe_callB (id := "len") (call_lenK (K := K) rfl) (by rfl) T.z_len (by decide +kernel) (pa_cons (pv 1) pa_nil)) (nomark _)) (pe_one (pe_callB (id := "all") (cr_allK (K := K) rfl rfl) (by rfl) T.z_all (by decide +kernel) (pa_cons (pe_lc (own := [("_law_one", 2), ("_law_two", 3)]) rfl sc.nd (pi_zipA (by rfl) T.z_zip (pa_cons (pv 0) (pa_cons (pv 1) pa_nil))) (blkOk_by (by kernel_rfl)) (fun _ _ _ _ _ => (pg_tupK (K := K) (n := 2) rfl rfl (pgs_cons (pg_name (i := 2) sc.nd rfl (by first | exact Or.inl rfl | exact Or.inr rfl)) (pgs_cons (pg_name (i := 3) sc.nd rfl (by first | exact Or.inl rfl | exact Or.inr rfl)) pgs_nil)))) (fun _ _ _ _ _ => pts_nil) (fun _ _ _ _ _ => (pe_c C_L_law_same hr (Nat.le_refl _) (by rfl) (pa_cons (pv 2) (pa_cons (pv 3) pa_nil))))) pa_nil)))))))
  pss_nil)
  (pss_cons (ps_if (PW.pt (pw_or (pt_cmpR op_isNo (pv 1) pe_non (nomark _)) (pw_or1 (pt_cmpR op_isNo (pv 0) pe_non (nomark _)))))
  (pss_one (ps_ret (pe_and (pe_cmpR op_isNo (pv 1) pe_non (nomark _)) (pe_one (pe_cmpR op_isNo (pv 0) pe_non (nomark _))))))
  pss_nil)
  (pss_cons (ps_if (PW.pt (pw_or (pt_val (pe_callB (id := "isinstance") (call_isiK (K := K) rfl) (by rfl) T.z_isinstance (by decide +kernel) (pa_cons (pv 1) (pa_cons (pe_bltn (v := .ty "dict") (by rfl) T.z_dict (by decide +kernel) rfl) pa_nil)))) (pw_or1 (pt_val (pe_callB (id := "isinstance") (call_isiK (K := K) rfl) (by rfl) T.z_isinstance (by decide +kernel) (pa_cons (pv 0) (pa_cons (pe_bltn (v := .ty "dict") (by rfl) T.z_dict (by decide +kernel) rfl) pa_nil)))))))
  (pss_one (ps_ret (pe_and (pe_callB (id := "isinstance") (call_isiK (K := K) rfl) (by rfl) T.z_isinstance (by decide +kernel) (pa_cons (pv 1) (pa_cons (pe_bltn (v := .ty "dict") (by rfl) T.z_dict (by decide +kernel) rfl) pa_nil))) (pe_and (pe_callB (id := "isinstance") (call_isiK (K := K) rfl) (by rfl) T.z_isinstance (by decide +kernel) (pa_cons (pv 0) (pa_cons (pe_bltn (v := .ty "dict") (by rfl) T.z_dict (by decide +kernel) rfl) pa_nil))) (pe_one (pe_cmpR (op_eqDK (K := K) (hu64_of hr) rfl) (pv 0) (pv 1) (nomark _)))))))
  pss_nil)
  (pss_cons (ps_if (PW.pt (pw_or (pt_val (pe_callB (id := "isinstance") (call_isiK (K := K) rfl) (by rfl) T.z_isinstance (by decide +kernel) (pa_cons (pv 1) (pa_cons (pe_bltn (v := .ty "bool") (by rfl) T.z_bool (by decide +kernel) rfl) pa_nil)))) (pw_or1 (pt_val (pe_callB (id := "isinstance") (call_isiK (K := K) rfl) (by rfl) T.z_isinstance (by decide +kernel) (pa_cons (pv 0) (pa_cons (pe_bltn (v := .ty "bool") (by rfl) T.z_bool (by decide +kernel) rfl) pa_nil)))))))
  (pss_one (ps_ret (pe_and (pe_callB (id := "isinstance") (call_isiK (K := K) rfl) (by rfl) T.z_isinstance (by decide +kernel) (pa_cons (pv 1) (pa_cons (pe_bltn (v := .ty "bool") (by rfl) T.z_bool (by decide +kernel) rfl) pa_nil))) (pe_and (pe_callB (id := "isinstance") (call_isiK (K := K) rfl) (by rfl) T.z_isinstance (by decide +kernel) (pa_cons (pv 0) (pa_cons (pe_bltn (v := .ty "bool") (by rfl) T.z_bool (by decide +kernel) rfl) pa_nil))) (pe_one (pe_cmpR (op_eqDK (K := K) (hu64_of hr) rfl) (pv 0) (pv 1) (nomark _)))))))
  pss_nil)
  (pss_cons (ps_if (pt_val (pe_callB (id := "isinstance") (call_isiK (K := K) rfl) (by rfl) T.z_isinstance (by decide +kernel) (pa_cons (pv 1) (pa_cons (pe_bltn (v := .ty "int") (by rfl) T.z_int (by decide +kernel) rfl) pa_nil))))
  (pss_one (ps_ret (pe_and (pe_callB (id := "isinstance") (call_isiK (K := K) rfl) (by rfl) T.z_isinstance (by decide +kernel) (pa_cons (pv 0) (pa_cons (pe_bltn (v := .ty "int") (by rfl) T.z_int (by decide +kernel) rfl) pa_nil))) (pe_one (pe_cmpR (op_eqDK (K := K) (hu64_of hr) rfl) (pv 0) (pv 1) (nomark _))))))
  pss_nil)
  (pss_one (ps_ret (pe_and (pe_callB (id := "isinstance") (call_isiK (K := K) rfl) (by rfl) T.z_isinstance (by decide +kernel) (pa_cons (pv 1) (pa_cons (pe_bltn (v := .ty "str") (by rfl) T.z_str (by decide +kernel) rfl) pa_nil))) (pe_and (pe_callB (id := "isinstance") (call_isiK (K := K) rfl) (by rfl) T.z_isinstance (by decide +kernel) (pa_cons (pv 0) (pa_cons (pe_bltn (v := .ty "str") (by rfl) T.z_str (by decide +kernel) rfl) pa_nil))) (pe_one (pe_cmpR (op_eqDK (K := K) (hu64_of hr) rfl) (pv 0) (pv 1) (nomark _)))))))))))), fun B Q rs R hC hgs k => ?_⟩
  obtain ⟨d, hd, rfl, rfl⟩ := hC
  rcases hd with ⟨i, rfl⟩ | ⟨z, rfl, hz⟩ | ⟨e, rfl⟩ | ⟨ds, ho, hlen, hds⟩
  · have tI : TyR K (rD (.int i)) (.type "int") := tyOf ty_int rD_int
    refine w_no (et_B (ev_isiT (c := false) (ev_var rfl) tI (by decide +kernel))) ?_
    refine w_no (et_to (et_or (et_test (ev_opV ((ev_var rfl).up rD_int) ev_c rv_isNo)) fun _ => (et_test (ev_opV ((ev_var rfl).up rD_int) ev_c rv_isNo))) rfl) ?_
    refine w_no (et_or (et_B (ev_isi (c := false) (ev_var rfl) tI (by decide +kernel))) fun _ => (et_B (ev_isi (c := false) (ev_var rfl) tI (by decide +kernel)))) ?_
    refine w_no (et_or (et_B (ev_isi (c := false) (ev_var rfl) tI (by decide +kernel))) fun _ => (et_B (ev_isi (c := false) (ev_var rfl) tI (by decide +kernel)))) ?_
    refine w_when (et_B (ev_isi (c := true) (ev_var rfl) tI (by decide +kernel))) (fun _ => ?_) (fun e => nomatch e)
    exact w_ret (R := rBl true) (ev_bl (ev_andV (ev_isi (c := true) (ev_var rfl) tI (by decide +kernel)) fun _ => (ev_opV (ev_var rfl) (ev_var rfl) (rv_eqD (dpOf dp_int rD_int) (dpOf dp_int rD_int) rfl rfl))) (by simp [PyData.eqv])) k
  · have tI : TyR K (rD (.str z)) (.type "str") := tyOf ty_str rD_str
    refine w_no (et_B (ev_isiT (c := false) (ev_var rfl) tI (by decide +kernel))) ?_
    refine w_no (et_to (et_or (et_test (ev_opV ((ev_var rfl).up rD_str) ev_c rv_isNo)) fun _ => (et_test (ev_opV ((ev_var rfl).up rD_str) ev_c rv_isNo))) rfl) ?_
    refine w_no (et_or (et_B (ev_isi (c := false) (ev_var rfl) tI (by decide +kernel))) fun _ => (et_B (ev_isi (c := false) (ev_var rfl) tI (by decide +kernel)))) ?_
    refine w_no (et_or (et_B (ev_isi (c := false) (ev_var rfl) tI (by decide +kernel))) fun _ => (et_B (ev_isi (c := false) (ev_var rfl) tI (by decide +kernel)))) ?_
    refine w_no (et_B (ev_isi (c := false) (ev_var rfl) tI (by decide +kernel))) ?_
    exact w_ret (R := rBl true) (ev_bl (ev_andV (ev_isi (c := true) (ev_var rfl) tI (by decide +kernel)) fun _ => (ev_andV (ev_isi (c := true) (ev_var rfl) tI (by decide +kernel)) fun _ => (ev_opV (ev_var rfl) (ev_var rfl) (rv_eqD (dpOf dp_str rD_str) (dpOf dp_str rD_str) hz hz)))) (by simp [PyData.eqv])) k
  · have tI : TyR K (rD (.bool e)) (.type "bool") := tyOf ty_bl rD_bl
    refine w_no (et_B (ev_isiT (c := false) (ev_var rfl) tI (by decide +kernel))) ?_
    refine w_no (et_to (et_or (et_test (ev_opV ((ev_var rfl).up rD_bl) ev_c rv_isNo)) fun _ => (et_test (ev_opV ((ev_var rfl).up rD_bl) ev_c rv_isNo))) rfl) ?_
    refine w_no (et_or (et_B (ev_isi (c := false) (ev_var rfl) tI (by decide +kernel))) fun _ => (et_B (ev_isi (c := false) (ev_var rfl) tI (by decide +kernel)))) ?_
    refine w_when (et_or (et_B (ev_isi (c := true) (ev_var rfl) tI (by decide +kernel))) fun _ => (et_B (ev_isi (c := true) (ev_var rfl) tI (by decide +kernel)))) (fun _ => ?_) (fun e => nomatch e)
    exact w_ret (R := rBl true) (ev_bl (ev_andV (ev_isi (c := true) (ev_var rfl) tI (by decide +kernel)) fun _ => (ev_andV (ev_isi (c := true) (ev_var rfl) tI (by decide +kernel)) fun _ => (ev_opV (ev_var rfl) (ev_var rfl) (rv_eqD (dpOf dp_bl rD_bl) (dpOf dp_bl rD_bl) rfl rfl)))) (by simp [PyData.eqv])) k
  · rcases ho with rfl | rfl
    · have tI : TyR K (rD (.list ds)) (.type "list") := tyOf ty_L rD_list
      refine w_when (et_B (ev_isiT (c := true) (ev_var rfl) tI (by decide +kernel))) (fun _ => ?_) (fun e => nomatch e)
      refine w_no (et_to (et_or (et_test (ev_opV (ev_isi (c := true) (ev_var rfl) tI (by decide +kernel)) (ev_isi (c := true) (ev_var rfl) tI (by decide +kernel)) (rv_ne rfl))) fun _ => (et_test (ev_opV (ev_isi (c := false) (ev_var rfl) tI (by decide +kernel)) (ev_isi (c := false) (ev_var rfl) tI (by decide +kernel)) (rv_ne rfl)))) rfl) ?_
      refine w_ret (R := rBl true) (ev_bl (ev_andV (c := true) (d := true) (ev_to (ev_opV (ev_lenL ((ev_var rfl).up rD_list) lat_data) (ev_lenL ((ev_var rfl).up rD_list) lat_data) (rv_eq rfl)) (by rw [decide_eq_true rfl])) fun _ => (ev_bl (ev_cb (ea_cons (ev_to (en_lcA ds (fun _ => rBl true) (src_zip (F := rD) (Or.inl ⟨rfl, rfl⟩) (ea_cons ((ev_var rfl).up rD_list) (ea_cons ((ev_var rfl).up rD_list) ea_nil))) (fun _ _ => gt_tup2 gt_name gt_name) (fun _ h => h) (by omega) (fun x hx => ev_call (ea_cons (ev_var rfl) (ea_cons (ev_var rfl) ea_nil)) ⟨x, hds x hx, rfl, rfl⟩)).ev (by rw [List.map_map]; rfl)) ea_nil) (rc_all (cs := ds.map fun _ => true))) (allTrue ds))) rfl) k
    · have tI : TyR K (rD (.tuple ds)) (.type "tuple") := tyOf ty_T rD_tup
      refine w_when (et_B (ev_isiT (c := true) (ev_var rfl) tI (by decide +kernel))) (fun _ => ?_) (fun e => nomatch e)
      refine w_no (et_to (et_or (et_test (ev_opV (ev_isi (c := false) (ev_var rfl) tI (by decide +kernel)) (ev_isi (c := false) (ev_var rfl) tI (by decide +kernel)) (rv_ne rfl))) fun _ => (et_test (ev_opV (ev_isi (c := true) (ev_var rfl) tI (by decide +kernel)) (ev_isi (c := true) (ev_var rfl) tI (by decide +kernel)) (rv_ne rfl)))) rfl) ?_
      refine w_ret (R := rBl true) (ev_bl (ev_andV (c := true) (d := true) (ev_to (ev_opV (ev_lenT ((ev_var rfl).up rD_tup)) (ev_lenT ((ev_var rfl).up rD_tup)) (rv_eq rfl)) (by rw [decide_eq_true rfl])) fun _ => (ev_bl (ev_cb (ea_cons (ev_to (en_lcA ds (fun _ => rBl true) (src_zip (F := rD) (Or.inr ⟨rfl, rfl⟩) (ea_cons ((ev_var rfl).up rD_tup) (ea_cons ((ev_var rfl).up rD_tup) ea_nil))) (fun _ _ => gt_tup2 gt_name gt_name) (fun _ h => h) (by omega) (fun x hx => ev_call (ea_cons (ev_var rfl) (ea_cons (ev_var rfl) ea_nil)) ⟨x, hds x hx, rfl, rfl⟩)).ev (by rw [List.map_map]; rfl)) ea_nil) (rc_all (cs := ds.map fun _ => true))) (allTrue ds))) rfl) k
theorem z_L_law_same (X : K.In hp) (G : hp.Ns mainGlobals mg) (c : K9H.Sy K) : Cal P w K mg base 0 "_law_same" (SpD (CS fun _ => False)) [] := by
  obtain ⟨fd, F⟩ := c.def_ 36 (d := K9H.d_L_law_same) rfl
  have F : FunD K K9H.d_L_law_same.name K9H.d_L_law_same.qual K9H.d_L_law_same.params K9H.d_L_law_same.body K9H.d_L_law_same.scope [] [] _ fd := F
  exact calD (ps := ["_law_found", "_law_due"]) F (He.glo_ok X G (c.fact 24 (f := .glo "_law_same") rfl)) (bindsD F fun _ _ _ _ _ _ us hl => match us, hl with | [_, _], _ => rfl) ⟨fun _ _ _ _ ⟨_, _, _, _, _, _, ⟨_, h, _⟩, _⟩ => h.elim, fun _ _ _ _ _ _ _ _ _ _ _ _ _ ⟨_, _, _, _, _, _, ⟨_, h, _⟩, _⟩ => h.elim⟩
def CT_L_law_same : Option Addr → List Rep → Rep → Prop := CS (UpD (UpD (UpD (UpD fun _ => False))))
theorem c_L_law_same (X : K.In hp) (G : hp.Ns mainGlobals mg) (c : K9H.Sy K) : Cal P w K mg base 4 "_law_same" (SpD CT_L_law_same) [] :=
  s_L_law_same X G c (s_L_law_same X G c (s_L_law_same X G c (s_L_law_same X G c (z_L_law_same X G c))))

end
end K9W
end
section
set_option Elab.async false
set_option linter.all false
set_option maxRecDepth 100000
set_option maxHeartbeats 2000000
namespace L2.K9A
open PySem PySem.Spec PyProof.Rows L2 L2.K9R
/-! a dict of lists, all new -/
/-- the places of the names -/
def nest (ns : List Str) (ad : Key → Addr) (g : Str → HRep) : Hs := ns.map fun n => (ad (.inr n), g n)
theorem nest_at {ns : List Str} {ad : Key → Addr} {g : Str → HRep} {hs : Hs} {n : Str} (hn : n ∈ ns) : ∃ j : Nat, ns[j]? = some n ∧ (nest ns ad g ++ hs)[j]? = some (ad (.inr n), g n) := by
  obtain ⟨j, hj⟩ := List.getElem?_of_mem hn
  have hl := (List.getElem?_eq_some_iff.mp hj).1
  refine ⟨j, hj, ?_⟩
  rw [List.getElem?_append_left (by unfold nest; rw [List.length_map]; exact hl)]
  unfold nest
  rw [List.getElem?_map, hj]
  rfl
theorem nest_set {ns : List Str} {ad : Key → Addr} {g : Str → HRep} {hs : Hs} {n : Str} {h : HRep} {j : Nat} (nd : ns.Nodup) (hj : ns[j]? = some n) : (nest ns ad g ++ hs).set j (ad (.inr n), h) = nest ns ad (fun m => if m = n then h else g m) ++ hs := by
  have hl := (List.getElem?_eq_some_iff.mp hj).1
  rw [List.set_append_left _ _ (by unfold nest; rw [List.length_map]; exact hl)]
  congr 1
  apply List.ext_getElem?
  intro i
  unfold nest
  by_cases e : j = i
  · subst e
    rw [List.getElem?_set_self (by rw [List.length_map]; exact hl), List.getElem?_map, hj]
    simp
  · rw [List.getElem?_set_ne e, List.getElem?_map, List.getElem?_map]
    cases hi : ns[i]? with
    | none => rfl
    | some m =>
      have hm : m ≠ n := fun q => by
        rw [q] at hi
        exact e ((List.getElem?_inj hl nd).mp (hj.trans hi.symm))
      simp [hm]
theorem nest_congr {ns : List Str} {ad ad' : Key → Addr} {g g' : Str → HRep} (h : ∀ n ∈ ns, ad (.inr n) = ad' (.inr n) ∧ g n = g' n) : nest ns ad g = nest ns ad' g' := by
  unfold nest
  exact List.map_congr_left fun n hn => by rw [(h n hn).1, (h n hn).2]
section
variable {B : Bs} {b : Option Addr} {S : List Addr} {hs hs' : Hs} {es es' : Es} {σ : L2.St} {H H1 H' : Hp} {ta tb tc te tk tv : TE} {tt tu : TT} {tar : TA} {R Ra Rb Rc : Rep} {K : PySem.W.Frag} {h : HRep} {D : Ends} {t1 t2 : TS} {T : L2.St → Hp → Prop} {wi : TI} {g : TG}
theorem at_mid {l : Hs} {x : Addr × HRep} {r : Hs} : (l ++ x :: r)[l.length]? = some x := by
  rw [List.getElem?_append_right (Nat.le_refl _), Nat.sub_self]
  rfl
theorem set_mid {l : Hs} {x y : Addr × HRep} {r : Hs} : (l ++ x :: r).set l.length y = l ++ y :: r := by
  rw [List.set_append_right _ _ (Nat.le_refl _), Nat.sub_self]
  rfl
/-- x = {n: [] for n in ns} -/
theorem w_dcN {ns : List Str} {js vs : List Nat} {f : Str → Es → Es} {i0 : Nat} (src : SRC B.b hs es wi (ns.map rStr)) (hg : ∀ n ∈ ns, GT B.b g (rStr n) js (f n)) (hj : ∀ j, j ∈ js → j ∈ vs) (nd : ns.Nodup) (hl : ns.length ≤ 100000)
    (hk : ∀ n ∈ ns, EV B.b hs (f n (wipeE es vs)) tk (rStr n)) (hv : ∀ n ∈ ns, EN B.b hs (f n (wipeE es vs)) tv (hL []))
    (k : ∀ (d : Addr) (ad : Key → Addr), N B (nest ns.reverse ad (fun _ => hL []) ++ (d, hDK (ns.map Sum.inr) fun k => rAt (ad k)) :: hs) (es.set i0 (some (rAt d))) D.nx) : N B hs es (tAsg (tDc wi g tYes tk tv vs) (gName i0) D) := fun σ H s => by
  refine src _ σ H s.e _ fun J H1 G Y fr hG wk hY => fun d hD => ?_
  rw [List.length_map] at wk
  have s1 := s.mono fr
  have sa : Sat B ((d, hDK [] fun k => rAt d) :: hs) es σ (upd H1 d (.dK [])) := s1.add (FrN.mk' (Fr.refl s1.e.ok) hD rfl) upd_same ⟨[], rfl, rfl, fun k v m => by cases m⟩
  refine ⟨fun i m Hx => m = ns.length - i ∧ i ≤ ns.length ∧ ∃ ad : Key → Addr, Sat B (nest (ns.take i).reverse ad (fun _ => hL []) ++ (d, hDK ((ns.take i).map Sum.inr) fun k => rAt (ad k)) :: hs) es σ Hx ∧
      Same (msk (B.S hs) H1) (msk (B.S (nest (ns.take i).reverse ad (fun _ => hL []) ++ (d, hDK ((ns.take i).map Sum.inr) fun k => rAt (ad k)) :: hs)) Hx),
    ⟨ns.length, by simp, Nat.zero_le _, fun _ => d, sa, ?_⟩, ?_⟩
  · show Same (msk (B.S hs) H1) (msk (d :: B.S hs) (upd H1 d (.dK [])))
    rw [msk_cons hD]
    exact Same.refl _
  rintro i m Hx ⟨rfl, hi, ad, si, sm⟩
  have gx : ∃ S', G.P .non (msk S' Hx) := ⟨_, G.up sm hG⟩
  by_cases hlt : i < ns.length
  · refine .inr ⟨wk.goes i Hx hlt gx, fun H2 => i + 1 ≤ ns.length ∧ ∃ ad : Key → Addr, Sat B (nest (ns.take (i + 1)).reverse ad (fun _ => hL []) ++ (d, hDK ((ns.take (i + 1)).map Sum.inr) fun k => rAt (ad k)) :: hs) es σ H2 ∧
      Same (msk (B.S hs) H1) (msk (B.S (nest (ns.take (i + 1)).reverse ad (fun _ => hL []) ++ (d, hDK ((ns.take (i + 1)).map Sum.inr) fun k => rAt (ad k)) :: hs)) H2), fun H' p => ⟨ns.length - (i + 1), by omega, rfl, p⟩, fun x Hy y => ?_⟩
    have hR : ns[i]? = some ns[i] := List.getElem?_eq_getElem hlt
    have hm := List.getElem_mem hlt
    obtain ⟨f1, r1⟩ := hY _ i (rStr ns[i]) Hx x Hy (by rw [List.getElem?_map, hR]; rfl) si.e.ok (G.up sm hG) (wk.yields i Hx x Hy hlt gx y)
    have s2 := si.mono f1
    have stx : SatE B.b (B.S (nest (ns.take i).reverse ad (fun _ => hL []) ++ (d, hDK ((ns.take i).map Sum.inr) fun k => rAt (ad k)) :: hs)) hs (wipeE es vs) (wipe σ vs) Hy := ⟨s2.e.ok, s2.e.sl.wipe vs, fun z hz => s2.e.ht z (List.mem_append_right _ (List.mem_cons_of_mem _ hz))⟩
    refine hg _ hm _ _ _ Hy x stx.sl r1 _ fun σ2 sl2 k2 l2 => ⟨wipe_eq (fun k hk => k2 k fun q => hk (hj k q)) l2, ?_⟩
    have stx2 : SatE B.b _ hs _ σ2 Hy := ⟨stx.ok, sl2, stx.ht⟩
    refine et_yes _ σ2 Hy stx2 _ fun c H3 f3 pc => ?_
    subst pc
    rw [if_pos rfl]
    refine hk _ hm _ σ2 H3 (stx2.mono f3) _ fun kv H4 f4 rk => hv _ hm _ σ2 H4 ((stx2.mono f3).mono f4) _ fun p o H5 f5 ho hh => ?_
    have s4 := (s2.mono f3).mono f4
    have s5 := s4.add f5 ho hh
    obtain ⟨_, _, od, hd5, kvs, eo, e1, e2⟩ := s5.e.ht (d, _) (List.mem_cons_of_mem _ (List.mem_append_right _ List.mem_cons_self))
    subst eo
    have hlen : kvs.length = i := by
      have := congrArg List.length e1
      rw [List.length_map, List.length_map, List.length_take] at this
      omega
    have hnew : ns[i] ∉ ns.take i := fun q => by
      obtain ⟨j, hj⟩ := List.getElem?_of_mem q
      have hl2 := (List.getElem?_eq_some_iff.mp hj).1
      rw [List.length_take] at hl2
      rw [List.getElem?_take_of_lt (by omega)] at hj
      have := (List.getElem?_inj (List.getElem?_eq_some_iff.mp hj).1 nd).mp (hj.trans hR.symm)
      omega
    let ad' : Key → Addr := fun k => if k = .inr ns[i] then p else ad k
    have hne : ∀ k ∈ (ns.take i).map (Sum.inr : Str → Key), ad' k = ad k := fun k hk => by
      obtain ⟨z, hz, rfl⟩ := List.mem_map.mp hk
      exact if_neg fun e => hnew (by cases e; exact hz)
    have et : ns.take (i + 1) = ns.take i ++ [ns[i]] := by rw [List.take_add_one, hR]; rfl
    have en : nest (ns.take (i + 1)).reverse ad' (fun _ => hL []) = (p, hL []) :: nest (ns.take i).reverse ad (fun _ => hL []) := by
      rw [et, List.reverse_append]
      show (ad' (.inr ns[i]), hL []) :: nest (ns.take i).reverse ad' (fun _ => hL []) = _
      rw [show ad' (.inr ns[i]) = p from if_pos rfl, nest_congr fun n hn => ⟨hne _ (List.mem_map.mpr ⟨n, List.mem_reverse.mp hn, rfl⟩), rfl⟩]
    refine ⟨kvs, .inr ns[i], rk, hd5, by rw [hlen]; exact Nat.lt_of_lt_of_le (Nat.lt_of_lt_of_le hlt hl) (by decide), hlt, ad', ?_⟩
    have hput := s5.put (k := ((p, hL []) :: nest (ns.take i).reverse ad (fun _ => hL [])).length) (p := d) (h' := hDK ((ns.take (i + 1)).map Sum.inr) fun k => rAt (ad' k)) (o := .dK (putK kvs (.inr ns[i]) (.ref p))) (at_mid (l := (p, hL []) :: nest (ns.take i).reverse ad (fun _ => hL []))) ⟨_, rfl, by
        have : (Sum.inr ns[i] : Key) ∉ kvs.map Prod.fst := by
          rw [e1]
          intro q
          obtain ⟨z, hz, e⟩ := List.mem_map.mp q
          cases e
          exact hnew hz
        rw [putK_fst, if_neg this, e1, et, List.map_append]
        rfl, fun k' v' m => by
        rcases putK_mem m with ⟨rfl, rfl⟩ | ⟨_, m1⟩
        · exact congrArg V.ref (if_pos rfl).symm
        · have hk' : k' ∈ (ns.take i).map (Sum.inr : Str → Key) := by
            rw [← e1]
            exact List.mem_map.mpr ⟨_, m1, rfl⟩
          show (rAt (ad' k')).P v' _
          rw [hne k' hk']
          exact e2 _ _ m1⟩
    have es1 := set_mid (l := (p, hL []) :: nest (ns.take i).reverse ad (fun _ => hL [])) (x := (d, hDK ((ns.take i).map Sum.inr) fun k => rAt (ad k))) (y := (d, hDK ((ns.take (i + 1)).map Sum.inr) fun k => rAt (ad' k))) (r := hs)
    have hput2 : Sat B (((p, hL []) :: nest (ns.take i).reverse ad (fun _ => hL [])) ++ (d, hDK ((ns.take (i + 1)).map Sum.inr) fun k => rAt (ad' k)) :: hs) es σ (upd H5 d (.dK (putK kvs (.inr ns[i]) (.ref p)))) := es1 ▸ hput
    rw [en]
    refine ⟨hput2, ?_⟩
    have f15 := ((f1.trans f3).trans f4)
    have eS : B.S (((p, hL []) :: nest (ns.take i).reverse ad (fun _ => hL [])) ++ (d, hDK ((ns.take (i + 1)).map Sum.inr) fun k => rAt (ad' k)) :: hs) = p :: B.S (nest (ns.take i).reverse ad (fun _ => hL []) ++ (d, hDK ((ns.take i).map Sum.inr) fun k => rAt (ad k)) :: hs) := by
      simp [Bs.S, adr]
    rw [eS, msk_upd (List.mem_cons_of_mem _ (by simp [Bs.S, adr]))]
    exact (sm.trans f15.dat).trans f5.dat
  · have e : i = ns.length := by omega
    subst e
    rw [List.take_length] at si
    refine .inl ⟨wk.stops Hx gx, k d ad _ _ (si.set i0 rfl)⟩
theorem q_dcN {tz : TS} {ns : List Str} {js vs : List Nat} {f : Str → Es → Es} {i0 : Nat} (src : SRC B.b hs es wi (ns.map rStr)) (hg : ∀ n ∈ ns, GT B.b g (rStr n) js (f n)) (hj : ∀ j, j ∈ js → j ∈ vs) (nd : ns.Nodup) (hl : ns.length ≤ 100000)
    (hk : ∀ n ∈ ns, EV B.b hs (f n (wipeE es vs)) tk (rStr n)) (hv : ∀ n ∈ ns, EN B.b hs (f n (wipeE es vs)) tv (hL []))
    (k : ∀ (d : Addr) (ad : Key → Addr), N B (nest ns.reverse ad (fun _ => hL []) ++ (d, hDK (ns.map Sum.inr) fun k => rAt (ad k)) :: hs) (es.set i0 (some (rAt d))) (tz D)) : N B hs es (tSeq (tAsg (tDc wi g tYes tk tv vs) (gName i0)) tz D) := w_dcN (D := { D with nx := tz D }) src hg hj nd hl hk hv k
theorem w_dputK {p : Addr} {n : Nat} {ks : List Key} {f f' : Key → Rep} {key : Key} {td tk tv : TE} (hn : hs[n]? = some (p, hDK ks f)) (hv : EV B.b hs es tv Rc) (hd : EV B.b hs es td (rAt p)) (hk : EV B.b hs es tk (rC (kV key))) (hl : ks.length ≤ 100000)
    (h1 : ∀ v M, Rc.P v M → (f' key).P v M) (h2 : ∀ k, k ∈ ks → k ≠ key → ∀ v M, (f k).P v M → (f' k).P v M) (k : N B (hs.set n (p, hDK (if key ∈ ks then ks else ks ++ [key]) f')) es D.nx) : N B hs es (sDPut td tk tv D) := fun σ H s =>
  hv _ σ H s.e _ fun v H1 f1 r1 => hd _ σ H1 (s.mono f1).e _ fun x H2 f2 r2 => hk _ σ H2 ((s.mono f1).mono f2).e _ fun y H3 f3 r3 => by
    have s3 := ((s.mono f1).mono f2).mono f3
    obtain ⟨_, _, o, ho, kvs, eo, e1, e2⟩ := s3.e.ht _ (List.mem_of_getElem? hn)
    subst eo
    have ey : y = kV key := r3
    have hlen : kvs.length < sizeLine := by
      have : kvs.length = ks.length := by rw [← e1, List.length_map]
      rw [this]
      exact Nat.lt_of_le_of_lt hl (by decide)
    refine ⟨p, _, r2, by rw [ey]; exact DPut.k ho hlen, k _ _ (s3.put hn ⟨_, rfl, ?_, fun k' v' m => ?_⟩)⟩
    · subst e1
      exact putK_fst
    · rcases putK_mem m with ⟨rfl, rfl⟩ | ⟨n1, m1⟩
      · exact h1 _ _ (Rc.up (f2.dat.trans f3.dat) r1)
      · exact h2 _ (by rw [← e1]; exact List.mem_map.mpr ⟨_, m1, rfl⟩) n1 _ _ (e2 _ _ m1)
theorem q_dputK {tz : TS} {p : Addr} {n : Nat} {ks : List Key} {f f' : Key → Rep} {key : Key} {td tk tv : TE} (hn : hs[n]? = some (p, hDK ks f)) (hv : EV B.b hs es tv Rc) (hd : EV B.b hs es td (rAt p)) (hk : EV B.b hs es tk (rC (kV key))) (hl : ks.length ≤ 100000)
    (h1 : ∀ v M, Rc.P v M → (f' key).P v M) (h2 : ∀ k, k ∈ ks → k ≠ key → ∀ v M, (f k).P v M → (f' k).P v M) (k : N B (hs.set n (p, hDK (if key ∈ ks then ks else ks ++ [key]) f')) es (tz D)) : N B hs es (tSeq (sDPut td tk tv) tz D) := w_dputK (D := { D with nx := tz D }) hn hv hd hk hl h1 h2 k
theorem q_par2 {tz : TS} {i j : Nat} {ta tb : TE} {h1 h2 : HRep} (ha : EN B.b hs es ta h1) (hb : ∀ p, EN B.b ((p, h1) :: hs) es tb h2) (k : ∀ p q, N B ((q, h2) :: (p, h1) :: hs) ((es.set i (some (rAt p))).set j (some (rAt q))) (tz D)) : N B hs es (tSeq (tPar i j (tCons ta (tCons tb tNil))) tz D) := w_par2 (D := { D with nx := tz D }) ha hb k
/-- return of it: data -/
theorem w_retDN {ms : List Str} {ad : Key → Addr} {gm : Str → HRep} {d : Addr} {ks : List Key} {f : Key → Rep} {i : Nat} (hi : es[i]? = some (some (rAt d))) (hks : ∀ k ∈ ks, ∃ n ∈ ms, k = .inr n) (hf : ∀ n ∈ ms, ∀ v M, (rOf (gm n)).P v M → (f (.inr n)).P v M)
    (k : ∀ v H', Fr B.b B.S0 B.H0 H' → (rDK ks f).P v (msk B.S0 H') → D.rt v H') : N B (nest ms ad gm ++ (d, hDK ks fun k => rAt (ad k)) :: hs) es (tRet (tVar i) D) := fun σ H s => by
  obtain ⟨v, e1, e2⟩ := s.e.sl.at_ i _ hi
  have e2 : v = .ref d := e2
  subst e2
  refine ⟨_, e1, k _ _ s.fin ?_⟩
  have up : Same (msk (B.S (nest ms ad gm ++ (d, hDK ks fun k => rAt (ad k)) :: hs)) H) (msk B.S0 H) := msk_sub fun q hq => List.mem_append_right _ hq
  have md : (d, hDK ks fun k => rAt (ad k)) ∈ nest ms ad gm ++ (d, hDK ks fun k => rAt (ad k)) :: hs := List.mem_append_right _ List.mem_cons_self
  obtain ⟨_, _, o, ho, kvs, eo, h1, h2⟩ := s.e.ht _ md
  subst eo
  refine ⟨d, _, rfl, (msk_out (s.out d (List.mem_map.mpr ⟨_, md, rfl⟩))).trans ho, kvs, rfl, h1, fun k' v' m => ?_⟩
  have e3 : v' = .ref (ad k') := h2 k' v' m
  obtain ⟨n, hn, rfl⟩ := hks k' (by rw [← h1]; exact List.mem_map.mpr ⟨_, m, rfl⟩)
  have mn : (ad (.inr n), gm n) ∈ nest ms ad gm ++ (d, hDK ks fun k => rAt (ad k)) :: hs := List.mem_append_left _ (List.mem_map.mpr ⟨n, hn, rfl⟩)
  obtain ⟨_, _, o2, ho2, hg2⟩ := s.e.ht _ mn
  exact hf n hn _ _ ⟨ad (.inr n), o2, e3, (msk_out (s.out _ (List.mem_map.mpr ⟨_, mn, rfl⟩))).trans ho2, (gm n).up up hg2⟩
end
end L2.K9A
end
section
set_option Elab.async false
set_option linter.all false
set_option maxRecDepth 100000
set_option maxHeartbeats 2000000
namespace L2.K9A
open PySem PySem.Spec PyProof.Rows L2 L2.K9R
/-! instances, locked dicts, lists that are handed on while they may still change -/
def hFz (od : Obj) (u : HO) (h : HRep) : HRep := ⟨fun o M => o = .frz od u ∧ h.P u M, fun s q => ⟨q.1, h.up s q.2⟩, fun q => by rw [q.1]; rfl⟩
def hEX (Hc : Hp) (x : Addr × HRep) : HRep := ⟨fun o M => Hc x.1 = some o ∧ x.2.P o M, fun s q => ⟨q.1, x.2.up s q.2⟩, fun q => x.2.no q.2⟩
def hI (C : Addr) (rf : List (Str × Rep)) : HRep := ⟨fun o M => ∃ dx fs, o = .ins C dx fs ∧ fs.map Prod.fst = rf.map Prod.fst ∧ All2 (rf.map Prod.snd) (fs.map Prod.snd) M, fun s q => by
  obtain ⟨dx, fs, e, h1, h2⟩ := q
  exact ⟨dx, fs, e, h1, h2.up s⟩, fun q => by
  obtain ⟨_, _, e, _⟩ := q
  rw [e]
  rfl⟩
theorem hI_get {f : Str} {R : Rep} {M : Hp} : ∀ {rf : List (Str × Rep)} {fs : List (Str × V)}, fs.map Prod.fst = rf.map Prod.fst → All2 (rf.map Prod.snd) (fs.map Prod.snd) M → rf.lookup f = some R → ∃ v, fs.lookup f = some v ∧ R.P v M
  | [], _, _, _, h => by cases h
  | _ :: _, [], e, _, _ => by cases e
  | (g, r) :: rf, (g', x) :: fs, e, al, h => by
    injection e with e1 e2
    have e1 : g' = g := e1
    subst e1
    cases q : (f == g') with
    | true =>
      have h1 : List.lookup f ((g', r) :: rf) = some r := by simp [List.lookup, q]
      have h2 : List.lookup f ((g', x) :: fs) = some x := by simp [List.lookup, q]
      rw [h1] at h
      cases h
      exact ⟨x, h2, al.1⟩
    | false =>
      have h1 : List.lookup f ((g', r) :: rf) = List.lookup f rf := by simp [List.lookup, q]
      have h2 : List.lookup f ((g', x) :: fs) = List.lookup f fs := by simp [List.lookup, q]
      rw [h1] at h
      obtain ⟨v, e3, e4⟩ := hI_get e2 al.2 h
      exact ⟨v, h2.trans e3, e4⟩
theorem lookup_out {α : Type} {f : Str} : ∀ {fs : List (Str × α)}, f ∉ fs.map Prod.fst → fs.lookup f = none
  | [], _ => rfl
  | (g, x) :: fs, h => by
    have h1 : (f == g) = false := beq_eq_false_iff_ne.mpr fun e => h (by rw [e]; exact List.mem_cons_self)
    have h2 : List.lookup f ((g, x) :: fs) = List.lookup f fs := by simp [List.lookup, h1]
    rw [h2]
    exact lookup_out fun q => h (List.mem_cons_of_mem _ q)
theorem putF_new {f : Str} {v : V} : ∀ {fs : List (Str × V)}, f ∉ fs.map Prod.fst → putF f v fs = fs ++ [(f, v)]
  | [], _ => rfl
  | (g, x) :: fs, h => by
    have h1 : g ≠ f := fun e => h (by rw [← e]; exact List.mem_cons_self)
    show (if g = f then (g, v) :: fs else (g, x) :: putF f v fs) = _
    rw [if_neg h1, putF_new fun q => h (List.mem_cons_of_mem _ q)]
    rfl
section
variable {B : Bs} {b : Option Addr} {S : List Addr} {hs hs' : Hs} {es es' : Es} {σ : L2.St} {H H1 H' : Hp} {ta tb tc te tk tv to ti : TE} {tt tu : TT} {tar : TA} {R Ra Rb Rc : Rep} {K : PySem.W.Frag} {h : HRep} {D : Ends} {t1 t2 tbd tz : TS} {T : L2.St → Hp → Prop} {wi : TI} {g : TG} {C : Addr} {rf : List (Str × Rep)} {f m : Str}
/-- where an instance is -/
def IAt (C : Addr) (b : Option Addr) (hs : Hs) (rf : List (Str × Rep)) (R : Rep) : Prop := ∀ (S : List Addr) (H : Hp) (v : V), HotOk b S hs H → R.P v (msk S H) → ∃ a dx fs, v = .ref a ∧ H a = some (.ins C dx fs) ∧ fs.map Prod.fst = rf.map Prod.fst ∧ All2 (rf.map Prod.snd) (fs.map Prod.snd) (msk S H)
theorem iat_data : IAt C b hs rf (rOf (hI C rf)) := fun S H v _ h => by
  obtain ⟨a, o, e, ho, dx, fs, eo, h1, h2⟩ := h
  subst eo
  exact ⟨a, dx, fs, e, msk_same _ _ ho, h1, h2⟩
theorem iat_hot {p : Addr} (hp : (p, hI C rf) ∈ hs) : IAt C b hs rf (rAt p) := fun S H v ho h => by
  obtain ⟨_, _, o, h1, dx, fs, eo, h2, h3⟩ := ho _ hp
  subst eo
  exact ⟨p, dx, fs, h, h1, h2, h3⟩
theorem ev_fld (ha : EV b hs es ta Ra) (hi : IAt C b hs rf Ra) (cl : Cls K C) (na : NoAttr K C f) (hf : rf.lookup f = some R) : EV b hs es (tFld K ta f) R := fun S σ H s Q q =>
  ha S σ H s _ fun x H1 f1 r1 => by
    obtain ⟨a, dx, fs, e, hh, h1, h2⟩ := hi S H1 x (s.mono f1).ht r1
    obtain ⟨v, e2, rv⟩ := hI_get h1 h2 hf
    exact ⟨a, C, dx, fs, v, e, hh, cl, na, e2, q v H1 f1 rv⟩
theorem w_setF {p : Addr} {n : Nat} (hn : hs[n]? = some (p, hI C rf)) (hv : EV B.b hs es tv R) (ha : EV B.b hs es ta (rAt p)) (cl : Cls K C) (na : NoAttr K C f) (hf : f ∉ rf.map Prod.fst) (hl : rf.length < 1000) (k : N B (hs.set n (p, hI C (rf ++ [(f, R)]))) es D.nx) : N B hs es (sFld K ta tv f D) := fun σ H s =>
  hv _ σ H s.e _ fun y H1 f1 r1 => ha _ σ H1 (s.mono f1).e _ fun x H2 f2 r2 => by
    have s2 := (s.mono f1).mono f2
    obtain ⟨_, _, o, ho, dx, fs, eo, h1, h2⟩ := s2.e.ht _ (List.mem_of_getElem? hn)
    subst eo
    have hlen : fs.length = rf.length := by have := congrArg List.length h1; rwa [List.length_map, List.length_map] at this
    refine ⟨p, C, dx, fs, r2, ho, cl, na, by omega, k _ _ (s2.put hn ⟨dx, putF f y fs, rfl, ?_, ?_⟩)⟩
    · rw [putF_new (by rw [h1]; exact hf), List.map_append, List.map_append, h1]
      rfl
    · rw [putF_new (by rw [h1]; exact hf), List.map_append, List.map_append]
      exact All2.snoc (R.up f2.dat r1) h2
theorem q_setF {p : Addr} {n : Nat} (hn : hs[n]? = some (p, hI C rf)) (hv : EV B.b hs es tv R) (ha : EV B.b hs es ta (rAt p)) (cl : Cls K C) (na : NoAttr K C f) (hf : f ∉ rf.map Prod.fst) (hl : rf.length < 1000) (k : N B (hs.set n (p, hI C (rf ++ [(f, R)]))) es (tz D)) : N B hs es (tSeq (sFld K ta tv f) tz D) := w_setF (D := { D with nx := tz D }) hn hv ha cl na hf hl k
theorem q_setFN {p : Addr} {n : Nat} (hn : hs[n]? = some (p, hI C rf)) (hv : EN B.b hs es tv h) (ha : ∀ d, EV B.b ((d, h) :: hs) es ta (rAt p)) (cl : Cls K C) (na : NoAttr K C f) (hf : f ∉ rf.map Prod.fst) (hl : rf.length < 1000) (k : ∀ d, N B ((d, h) :: hs.set n (p, hI C (rf ++ [(f, rAt d)]))) es (tz D)) : N B hs es (tSeq (sFld K ta tv f) tz D) := fun σ H s =>
  hv _ σ H s.e _ fun d od H1 f1 hod hd => by
    have s1 := s.add f1 hod hd
    refine ha d _ σ H1 s1.e _ fun x H2 f2 r2 => ?_
    have s2 := s1.mono f2
    have hn2 : ((d, h) :: hs)[n + 1]? = some (p, hI C rf) := hn
    obtain ⟨_, _, o, ho, dx, fs, eo, h1, h2⟩ := s2.e.ht _ (List.mem_of_getElem? hn2)
    subst eo
    have hlen : fs.length = rf.length := by have := congrArg List.length h1; rwa [List.length_map, List.length_map] at this
    refine ⟨p, C, dx, fs, r2, ho, cl, na, by omega, k d _ _ (s2.put hn2 (h' := hI C (rf ++ [(f, rAt d)])) ⟨dx, putF f (.ref d) fs, rfl, ?_, ?_⟩)⟩
    · rw [putF_new (by rw [h1]; exact hf), List.map_append, List.map_append, h1]
      rfl
    · rw [putF_new (by rw [h1]; exact hf), List.map_append, List.map_append]
      exact All2.snoc (r := rAt d) rfl h2
/-- o.f, o.g = e (a pair) -/
theorem w_setF2 {p : Addr} {n i : Nat} {g2 : Str} {R1 R2 : Rep} (hn : hs[n]? = some (p, hI C rf)) (hv : EV B.b hs es te (rT [R1, R2])) (hi : es[i]? = some (some (rAt p))) (cl : Cls K C) (na : NoAttr K C f) (na2 : NoAttr K C g2) (hf : f ∉ rf.map Prod.fst) (hf2 : g2 ∉ (rf ++ [(f, R1)]).map Prod.fst) (hl : rf.length < 900) (k : N B (hs.set n (p, hI C (rf ++ [(f, R1)] ++ [(g2, R2)]))) es D.nx) :
    N B hs es (tAsg te (gTup K 2 (gCons (gFld K (tVar i) f) (gCons (gFld K (tVar i) g2) gNil))) D) := fun σ H s =>
  hv _ σ H s.e _ fun v H1 f1 r1 => by
    have s1 := s.mono f1
    obtain ⟨a, vs, e, ha, _, al⟩ := rT_at r1
    obtain ⟨x, y, rfl, hx, hy⟩ := all_2 al
    obtain ⟨w, e1, e2⟩ := s1.e.sl.at_ i _ hi
    have e2 : w = .ref p := e2
    subst e2
    obtain ⟨_, _, o, ho, dx, fs, eo, h1, h2⟩ := s1.e.ht _ (List.mem_of_getElem? hn)
    subst eo
    have hlen : fs.length = rf.length := by have := congrArg List.length h1; rwa [List.length_map, List.length_map] at this
    have p1 : putF f x fs = fs ++ [(f, x)] := putF_new (by rw [h1]; exact hf)
    have s2 := s1.put (o := .ins C dx (fs ++ [(f, x)])) (h' := hI C (rf ++ [(f, R1)])) hn ⟨dx, _, rfl, by rw [List.map_append, List.map_append, h1]; rfl, by rw [List.map_append, List.map_append]; exact All2.snoc hx h2⟩
    have hl2 := (List.getElem?_eq_some_iff.mp hn).1
    have hn2 : (hs.set n (p, hI C (rf ++ [(f, R1)])))[n]? = some (p, hI C (rf ++ [(f, R1)])) := List.getElem?_set_self hl2
    have em : msk (B.S (hs.set n (p, hI C (rf ++ [(f, R1)])))) (upd H1 p (.ins C dx (fs ++ [(f, x)]))) = msk (B.S hs) H1 := by rw [S_set hn, msk_upd (s1.e.ht _ (List.mem_of_getElem? hn)).1]
    have h1' : (fs ++ [(f, x)]).map Prod.fst = (rf ++ [(f, R1)]).map Prod.fst := by rw [List.map_append, List.map_append, h1]; rfl
    have p2 : putF g2 y (fs ++ [(f, x)]) = fs ++ [(f, x)] ++ [(g2, y)] := putF_new (by rw [h1']; exact hf2)
    refine ⟨a, [x, y], e, st_of ha, rfl, x, [y], rfl, .ref p, e1, p, C, dx, fs, rfl, ho, cl, na, by omega, y, [], rfl, .ref p, e1, p, C, dx, fs ++ [(f, x)], rfl, by rw [p1]; exact upd_same, cl, na2, by rw [List.length_append]; show fs.length + 1 < 1000; omega, rfl, ?_⟩
    rw [p1, p2]
    have s3 := s2.put (o := .ins C dx (fs ++ [(f, x)] ++ [(g2, y)])) (h' := hI C (rf ++ [(f, R1)] ++ [(g2, R2)])) hn2 ⟨dx, _, rfl, by rw [List.map_append, List.map_append (l₁ := rf ++ [(f, R1)]), h1']; rfl, by rw [List.map_append, List.map_append (l₁ := fs ++ [(f, x)]), em]; exact All2.snoc hy (by rw [List.map_append, List.map_append]; exact All2.snoc hx h2)⟩
    rw [List.set_set] at s3
    exact k _ _ s3
/-! ### locks -/
abbrev lkD (D : Ends) (p : Addr) (od : Obj) (u : HO) : Ends := ⟨fun σ' H' => H' p = some (.frz od u) ∧ D.nx σ' (upd H' p u), fun v H' => H' p = some (.frz od u) ∧ D.rt v (upd H' p u), fun σ' H' => H' p = some (.frz od u) ∧ D.bk σ' (upd H' p u), fun σ' H' => H' p = some (.frz od u) ∧ D.ct σ' (upd H' p u)⟩
theorem w_lock {p : Addr} {n : Nat} {t : TS} (hn : hs[n]? = some (p, h)) (mu : ∀ o M, h.P o M → Mut (some o)) (k : ∀ od u, N B (hs.set n (p, hFz od u h)) es (t (lkD D p od u))) : N B hs es (tLock t D) := fun σ H s => by
  obtain ⟨_, _, o, ho, hh⟩ := s.e.ht _ (List.mem_of_getElem? hn)
  exact ⟨p, o, ho, mu o _ hh, fun od => k od o σ _ (s.put hn ⟨rfl, hh⟩)⟩
theorem q_lock {p : Addr} {n : Nat} {t : TS} (hn : hs[n]? = some (p, h)) (mu : ∀ o M, h.P o M → Mut (some o)) (k : ∀ od u, N B (hs.set n (p, hFz od u h)) es (t (lkD { D with nx := tz D } p od u))) : N B hs es (tSeq (tLock t) tz D) := w_lock (D := { D with nx := tz D }) hn mu k
theorem n_unlock {p : Addr} {n : Nat} {od : Obj} {u : HO} (hn : hs[n]? = some (p, hFz od u h)) (k : N B (hs.set n (p, h)) es T) : N B hs es (fun σ' H' => H' p = some (.frz od u) ∧ T σ' (upd H' p u)) := fun σ H s => by
  obtain ⟨_, _, o, ho, eo, hh⟩ := s.e.ht _ (List.mem_of_getElem? hn)
  have eo : o = .frz od u := eo
  subst eo
  exact ⟨ho, k σ _ (s.put hn hh)⟩
/-- what is walked, standing among the places -/
def SRCc (Cn : List Addr → Hp → Prop) (b : Option Addr) (S : List Addr) (hs : Hs) (es : Es) (wi : TI) (rs : List Rep) : Prop := ∀ (σ : L2.St) (H : Hp), SatE b S hs es σ H → ∀ Rk : It → Hp → Prop,
  (∀ (J : It) (H1 : Hp) (Y : Nat → Hp → V → Hp → Prop), Fr b S H H1 → Walk J rs.length (fun H => ∃ S', Cn S' H) Y →
    (∀ (S' : List Addr) (i : Nat) (R : Rep) (Hx : Hp) (x : V) (Hy : Hp), rs[i]? = some R → HpOk b S' Hx → Cn S' Hx → Y i Hx x Hy → Fr b S' Hx Hy ∧ R.P x (msk S' Hy)) → Rk J H1) → wi σ H Rk
theorem w_forC {α β : Type} {Cn : List Addr → Hp → Prop} {F : β → Rep} {js : List Nat} {f : β → Es → Es} {ys : List β} (src : SRCc Cn B.b (B.S hs) hs es wi (ys.map F)) (I : Nat → α → Prop) (hsI : α → Hs) (esI : α → Es) (x0 : α) (h0 : I 0 x0) (eh : hs = hsI x0) (le : LeE es (esI x0)) (hg : ∀ y ∈ ys, GT B.b g (F y) js (f y))
    (hc : ∀ x S H, HotOk B.b S (hsI x) H → Cn S H)
    (turn : ∀ (i : Nat) (y : β) (x : α), ys[i]? = some y → I i x → N B (hsI x) (f y (esI x)) (tbd { D with nx := Inv B I hsI esI (i + 1), ct := Inv B I hsI esI (i + 1), bk := D.nx }))
    (done : ∀ x, I ys.length x → N B (hsI x) (esI x) D.nx) : N B hs es (tFor wi g tbd D) := fun σ H s => by
  refine src σ H s.e _ fun J H1 Y fr wk hY => ?_
  have s1 := s.mono fr
  subst eh
  rw [List.length_map] at wk
  refine for_it wk (Inv B I hsI esI) ⟨x0, h0, s1.less le⟩ (fun i σ' H' hi p => ?_) (fun i v σ' Hx Hy hi p y => ?_) (fun σ' H' p => ?_)
  · obtain ⟨x, ix, sx⟩ := p
    exact ⟨_, hc x _ _ sx.e.ht⟩
  · obtain ⟨x, ix, sx⟩ := p
    have hR : ys[i]? = some ys[i] := List.getElem?_eq_getElem hi
    obtain ⟨f1, r1⟩ := hY _ i (F ys[i]) Hx v Hy (by rw [List.getElem?_map, hR]; rfl) sx.e.ok (hc x _ _ sx.e.ht) y
    have s2 := sx.mono f1
    refine hg _ (List.getElem_mem hi) _ _ σ' Hy v s2.e.sl r1 _ fun σ2 sl2 _ _ => ?_
    exact turn i _ x hR ix σ2 Hy ⟨⟨s2.e.ok, sl2, s2.e.ht⟩, s2.nd, s2.out, s2.dat, s2.keep, s2.bin, s2.gh⟩
  · obtain ⟨x, ix, sx⟩ := p
    exact done x ix σ' H' sx
def CnZ (p : Addr) (od : Obj) (u : HO) : List Addr → Hp → Prop := fun _ H => H p = some (.frz od u)
theorem cnZ {p : Addr} {od : Obj} {u : HO} (hp : (p, hFz od u h) ∈ hs) : HotOk b S hs H → CnZ p od u S H := fun ho => by
  obtain ⟨_, _, o, h1, eo, _⟩ := ho _ hp
  have eo : o = .frz od u := eo
  subst eo
  exact h1
theorem src_keysT {p : Addr} {od : Obj} {u : HO} {ks : List (List Key)} {f : List Key → Rep} {kr : List Key → Rep} (hp : (p, hFz od u (hDT ks f)) ∈ hs) (ha : EV b hs es ta (rAt p)) (hkr : ∀ (k : List Key) (q : Addr) (M : Hp), k ∈ ks → M q = some (.tup (k.map kV)) → (kr k).P (.ref q) M) : SRCc (CnZ p od u) b S hs es (iKeys ta) (ks.map kr) := fun σ H s Rk q => ha S σ H s _ fun v H1 f1 r1 => by
  have r1 : v = .ref p := r1
  have hz := (s.mono f1).ht _ hp
  obtain ⟨_, _, o, ho, eo, kvs, eu, hk, _⟩ := hz
  have eo : o = .frz od u := eo
  subst eo eu
  refine ⟨p, od, r1, Or.inr ⟨kvs, ho, q (Itkt p od kvs) H1 (fun i H x H' => H' = H ∧ ∃ (k : List Key) (q : Addr), ks[i]? = some k ∧ x = .ref q ∧ H q = some (.tup (k.map kV))) f1 ?_ ?_⟩⟩
  · have hl : kvs.length = ks.length := by rw [← hk, List.length_map]
    refine ⟨fun i H hi ⟨_, hc⟩ => ⟨hc, by rw [List.length_map] at hi; omega⟩, fun H ⟨_, hc⟩ => ⟨hc, by rw [List.length_map]; omega⟩, fun i H x H' hi _ y => ?_⟩
    obtain ⟨e1, k, v, a, e2, e3, e4⟩ := y
    exact ⟨e1, k, a, by rw [← hk, List.getElem?_map, e2]; rfl, e3, e4⟩
  · intro S' i R Hx x Hy hi ok hc y
    obtain ⟨e1, k, a, e2, e3, e4⟩ := y
    subst e1
    rw [List.getElem?_map, e2] at hi
    cases hi
    rw [e3]
    exact ⟨Fr.refl ok, hkr k a _ (List.mem_of_getElem? e2) ((msk_out (tup_out ok e4)).trans e4)⟩
theorem src_keysK {p : Addr} {od : Obj} {u : HO} {ks : List Key} {f : Key → Rep} (hp : (p, hFz od u (hDK ks f)) ∈ hs) (ha : EV b hs es ta (rAt p)) : SRCc (CnZ p od u) b S hs es (iKeys ta) (ks.map fun k => rC (kV k)) := fun σ H s Rk q => ha S σ H s _ fun v H1 f1 r1 => by
  have r1 : v = .ref p := r1
  have hz := (s.mono f1).ht _ hp
  obtain ⟨_, _, o, ho, eo, kvs, eu, hk, _⟩ := hz
  have eo : o = .frz od u := eo
  subst eo eu
  refine ⟨p, od, r1, Or.inl ⟨kvs, ho, q (Itk p od kvs) H1 (fun i H x H' => H' = H ∧ ∃ (k : Key), ks[i]? = some k ∧ x = kV k) f1 ?_ ?_⟩⟩
  · have hl : kvs.length = ks.length := by rw [← hk, List.length_map]
    refine ⟨fun i H hi ⟨_, hc⟩ => ⟨hc, by rw [List.length_map] at hi; omega⟩, fun H ⟨_, hc⟩ => ⟨hc, by rw [List.length_map]; omega⟩, fun i H x H' hi _ y => ?_⟩
    obtain ⟨e1, k, v, e2, e3⟩ := y
    exact ⟨e1, k, by rw [← hk, List.getElem?_map, e2]; rfl, e3⟩
  · intro S' i R Hx x Hy hi ok hc y
    obtain ⟨e1, k, e2, e3⟩ := y
    subst e1
    rw [List.getElem?_map, e2] at hi
    cases hi
    exact ⟨Fr.refl ok, e3⟩
/-- d[k], d locked -/
theorem ev_dkgetZ {p : Addr} {od : Obj} {u : HO} {ks : List Key} {f : Key → Rep} {k : Key} (hp : (p, hFz od u (hDK ks f)) ∈ hs) (hd : EV b hs es tb (rAt p)) (hk : EV b hs es ta (rC (kV k))) (hm : k ∈ ks) : EV b hs es (tDGet tb ta) (f k) := fun S σ H s Q q =>
  hd S σ H s _ fun x H1 f1 r1 => hk S σ H1 (s.mono f1) _ fun y H2 f2 r2 => by
    obtain ⟨_, _, o, ho, eo, kvs, eu, hks, hv⟩ := ((s.mono f1).mono f2).ht _ hp
    have eo : o = .frz od u := eo
    subst eo eu
    obtain ⟨v, ev⟩ := valV_some (kvs := kvs) (k := k) (by rw [hks]; exact hm)
    exact ⟨p, v, r1, by rw [show y = _ from r2, ← ev]; exact .inl ⟨kvs, k, .inr ⟨od, ho⟩, rfl, rfl⟩, q v H2 (f1.trans f2) (hv k v (valV_mem ev))⟩
/-- a list among the places, its contents fixed, walked -/
def CnL (p : Addr) (rs : List Rep) (vs : List V) : List Addr → Hp → Prop := fun S H => H p = some (.lst vs) ∧ All2 rs vs (msk S H)
theorem cnL {p : Addr} {Hc : Hp} {rs : List Rep} {vs : List V} (hp : (p, hEX Hc (p, hL rs)) ∈ hs) (hc : Hc p = some (.lst vs)) : HotOk b S hs H → CnL p rs vs S H := fun ho => by
  obtain ⟨_, _, o, h1, eo, ws, e2, al⟩ := ho _ hp
  have eo : Hc p = some o := eo
  subst e2
  rw [hc] at eo
  cases eo
  exact ⟨h1, al⟩
theorem src_seqH {p : Addr} {Hc : Hp} {rs : List Rep} {vs : List V} (hp : (p, hEX Hc (p, hL rs)) ∈ hs) (hc : Hc p = some (.lst vs)) (ha : EV b hs es ta (rAt p)) : SRCc (CnL p rs vs) b S hs es (iSeq K ta) rs := fun σ H s Rk q => ha S σ H s _ fun v H1 f1 r1 => by
  have r1 : v = .ref p := r1
  have hz := cnL hp hc (s.mono f1).ht
  refine ⟨p, r1, Or.inl ⟨⟨vs, sq_of hz.1⟩, q _ H1 (YAt vs) f1 ?_ ?_⟩⟩
  · rw [← hz.2.len]
    exact walk_list.mono (fun H ⟨S', h⟩ => sq_of h.1) fun _ _ _ _ _ _ h => h
  · intro S' i R Hx x Hy hi k hG y
    obtain ⟨e1, e2⟩ := y
    subst e1
    obtain ⟨w', hw, rw'⟩ := hG.2.get i hi
    cases e2.symm.trans hw
    exact ⟨Fr.refl k, rw'⟩
end
end L2.K9A
end
section
set_option Elab.async false
set_option linter.all false
set_option maxRecDepth 100000
set_option maxHeartbeats 2000000
namespace L2.K9A
open PySem PySem.Spec PyProof.Rows L2 L2.K9R
open C8 (Cal Met pe_c pe_mt pe_mt0 InsC call_isC pe_gc)
section
variable {B : Bs} {b : Option Addr} {S : List Addr} {hs hs' : Hs} {es es' : Es} {σ : L2.St} {H H1 H' : Hp} {ta tb tc te tk tv to ti : TE} {tt tu : TT} {tar tkw : TA} {R Ra Rb Rc : Rep} {K : PySem.W.Frag} {h : HRep} {D : Ends} {t1 t2 tbd tz : TS} {T : L2.St → Hp → Prop} {wi : TI} {g : TG} {C : Addr} {rf : List (Str × Rep)} {f m : Str}
/-- {key x: value x for x in xs}, xs among the places -/
theorem en_dcTC {β : Type} {Cn : List Addr → Hp → Prop} {F : β → Rep} {js vs : List Nat} {f : β → Es → Es} (ys : List β) (key : β → List Key) (val : List Key → Rep) (src : ∀ S, SRCc Cn b S hs es wi (ys.map F)) (hcn : ∀ S H, HotOk b S hs H → Cn S H) (hg : ∀ y ∈ ys, GT b g (F y) js (f y)) (hj : ∀ j, j ∈ js → j ∈ vs)
    (nd : (ys.map key).Nodup) (hl : ys.length ≤ 100000) (hk : ∀ y ∈ ys, ∃ Ra, EV b hs (f y (wipeE es vs)) tk Ra ∧ KeyT Ra (key y)) (hv : ∀ y ∈ ys, ∃ Rb : Rep, EV b hs (f y (wipeE es vs)) tv Rb ∧ ∀ v M, Rb.P v M → (val (key y)).P v M) : EN b hs es (tDcT wi g tYes tk tv vs) (hDT (ys.map key) val) := fun S σ H s Q q => by
  refine src S σ H s _ fun J H1 Y fr wk hY => fun D hD => ?_
  rw [List.length_map] at wk
  have s1 := s.mono fr
  have hDS := fr.back hD
  have hDo : D ∉ S := hDS.1
  have bD : b ≠ some D := fun e => hDo (s.ok.bag D e).1
  have hot : ∀ {Hx}, FrN b S H D Hx → HotOk b (D :: S) hs Hx := fun {Hx} fn z hz => by
    obtain ⟨h1, h2, o, h3, h4⟩ := s.ht z hz
    exact ⟨List.mem_cons_of_mem _ h1, h2, o, (fn.hot _ h1 h2).trans h3, z.2.up fn.dat h4⟩
  refine ⟨fun i m H2 => m = ys.length - i ∧ i ≤ ys.length ∧ FrN b S H D H2 ∧ ∃ kvs, kvs.map Prod.fst = (ys.take i).map key ∧ H2 D = some (.dT kvs) ∧ ∀ k v, (k, v) ∈ kvs → (val k).P v (msk (D :: S) H2),
    ⟨ys.length, by simp, Nat.zero_le _, FrN.mk' fr hD rfl, [], rfl, upd_same, fun k v m => by cases m⟩, ?_⟩
  rintro i m Hx ⟨rfl, hi, fn, kvs, ek, hDx, hvals⟩
  have cx : Cn (D :: S) Hx := hcn _ _ (hot fn)
  have gx : ∃ S', Cn S' Hx := ⟨_, cx⟩
  by_cases hlt : i < ys.length
  · refine .inr ⟨wk.goes i Hx hlt gx, fun H2 => i + 1 ≤ ys.length ∧ FrN b S H D H2 ∧ ∃ kvs, kvs.map Prod.fst = (ys.take (i + 1)).map key ∧ H2 D = some (.dT kvs) ∧ ∀ k v, (k, v) ∈ kvs → (val k).P v (msk (D :: S) H2), fun H' p => ⟨ys.length - (i + 1), by omega, rfl, p⟩, fun x Hy y => ?_⟩
    have hR : ys[i]? = some ys[i] := List.getElem?_eq_getElem hlt
    obtain ⟨f1', r1'⟩ := hY (D :: S) i (F ys[i]) Hx x Hy (by rw [List.getElem?_map, hR]; rfl) fn.ok cx (wk.yields i Hx x Hy hlt gx y)
    obtain ⟨Rk, hkE, hkK⟩ := hk _ (List.getElem_mem hlt)
    obtain ⟨Rv, hvE, hvV⟩ := hv _ (List.getElem_mem hlt)
    have stx : SatE b (D :: S) hs (wipeE es vs) (wipe σ vs) Hy := by
      refine ⟨f1'.ok, ((s.sl.up fn.dat).up f1'.dat).wipe vs, fun z hz => ?_⟩
      obtain ⟨h1, h2, o, h3, h4⟩ := s.ht z hz
      exact ⟨List.mem_cons_of_mem _ h1, h2, o, (f1'.hot _ (List.mem_cons_of_mem _ h1) h2).trans ((fn.hot _ h1 h2).trans h3), z.2.up (fn.dat.trans f1'.dat) h4⟩
    refine hg _ (List.getElem_mem hlt) (D :: S) _ _ Hy x stx.sl r1' _ fun σ2 sl2 k2 l2 => ⟨wipe_eq (fun k hk => k2 k fun q => hk (hj k q)) l2, ?_⟩
    have stx2 : SatE b (D :: S) hs _ σ2 Hy := ⟨stx.ok, sl2, stx.ht⟩
    refine et_yes (D :: S) σ2 Hy stx2 _ fun c H3 f3 pc => ?_
    subst pc
    rw [if_pos rfl]
    refine hkE _ σ2 H3 (stx2.mono f3) _ fun kv H4 f4 rk => hvE _ σ2 H4 ((stx2.mono f3).mono f4) _ fun vv H5 f5 rv => ?_
    have f15 := ((f1'.trans f3).trans f4).trans f5
    obtain ⟨kb, ekv, hkb⟩ := hkK _ _ (Rk.up f5.dat rk)
    have hlen : kvs.length = i := by
      have := congrArg List.length ek
      rw [List.length_map, List.length_map, List.length_take] at this
      omega
    have hD5 : H5 D = some (.dT kvs) := (f15.hot D List.mem_cons_self bD).trans hDx
    refine ⟨kvs, key ys[i], kb, ekv, msk_same _ _ hkb, hD5, ?_, ?_⟩
    · rw [hlen]
      exact Nat.lt_of_le_of_lt (Nat.le_trans hi hl) (by decide)
    · have em : msk (D :: S) (upd H5 D (.dT (putK kvs (key ys[i]) vv))) = msk (D :: S) H5 := msk_upd List.mem_cons_self
      have hnew : key ys[i] ∉ kvs.map Prod.fst := by
        rw [ek]
        intro q
        obtain ⟨j, hj⟩ := List.getElem?_of_mem q
        have hl2 := (List.getElem?_eq_some_iff.mp hj).1
        rw [List.length_map, List.length_take] at hl2
        rw [List.getElem?_map, List.getElem?_take_of_lt (by omega), ← List.getElem?_map] at hj
        have e2 : (ys.map key)[i]? = some (key ys[i]) := by rw [List.getElem?_map, hR]; rfl
        have := (List.getElem?_inj (List.getElem?_eq_some_iff.mp hj).1 nd).mp (hj.trans e2.symm)
        omega
      refine ⟨hlt, ⟨fn.new, f15.ok.put List.mem_cons_self bD rfl, by rw [em]; exact fn.dat.trans f15.dat, fun z hz n => ?_⟩, _, ?_, upd_same, fun k' v' m => ?_⟩
      · rw [upd_ne fun e => hDo (by rw [← e]; exact hz)]
        exact (f15.hot z (List.mem_cons_of_mem _ hz) n).trans (fn.hot z hz n)
      · rw [putK_fst (k := key ys[i]), if_neg hnew, ek, List.take_add_one, hR, List.map_append]
        rfl
      · rw [em]
        rcases putK_mem m with ⟨rfl, rfl⟩ | ⟨_, m1⟩
        · exact hvV _ _ rv
        · exact (val k').up f15.dat (hvals _ _ m1)
  · have e : i = ys.length := by omega
    subst e
    rw [List.take_length] at ek
    exact .inl ⟨wk.stops Hx gx, q D _ Hx fn hDx ⟨kvs, rfl, ek, hvals⟩⟩
/-! ### a place handed on, to read; the answer says nothing of the heap -/
def Exch (p : Addr) (h : HRep) : List Rep → List Rep → Prop
  | [], [] => True
  | r :: rs, r' :: rs' => (r' = r ∨ (r = rAt p ∧ r' = rOf h)) ∧ Exch p h rs rs'
  | _, _ => False
theorem Exch.all {p : Addr} {M M' : Hp} {o : HO} (sm : Same M M') (ho : M' p = some o) (hh : h.P o M') : ∀ {rs rs' : List Rep} {vs : List V}, Exch p h rs rs' → All2 rs vs M → All2 rs' vs M'
  | [], [], [], _, _ => True.intro
  | r :: rs, r' :: rs', v :: vs, e, al => by
    refine ⟨?_, Exch.all sm ho hh e.2 al.2⟩
    rcases e.1 with e1 | ⟨e1, e2⟩
    · subst e1
      exact r'.up sm al.1
    · subst e1 e2
      exact ⟨p, o, al.1, ho, hh⟩
  | [], [], _ :: _, _, al => al.elim
  | _ :: _, _ :: _, [], _, al => al.elim
  | [], _ :: _, _, e, _ => e.elim
  | _ :: _, [], _, e, _ => e.elim
theorem ev_callP {Cn : Option Addr → List Rep → Rep → Prop} {p : Addr} {Rs Rs' : List Rep} {E : XK} {h0 : HRep} (ha : EA b hs es tar Rs) (hp : (p, h0) ∈ hs) (up0 : ∀ o M, h0.P o M → h.P o M) (ex : Exch p h Rs Rs') (ni : ∀ (o : HO) (M : Hp) (xs : List Int), h.P o M → o ≠ .lst (xs.map V.int)) (fr : Flat R) (hc : Cn b Rs' R) : EV b hs es (tCall (SpD Cn) [] E tar) R := fun S σ H0 s0 Q q0 => ha S σ H0 s0 _ fun vs H f0 al => by
  have s := s0.mono f0
  have q : ∀ v H', Fr b S H H' → R.P v (msk S H') → Q v H' := fun v H' f r => q0 v H' (f0.trans f) r
  obtain ⟨hS, nb, o, ho, hh⟩ := s.ht _ hp
  have hS : p ∈ S := hS
  have ho : H p = some o := ho
  have hh : h.P o (msk S H) := up0 _ _ hh
  have nb : b ≠ some p := nb
  have sub : ∀ q, q ∈ S.filter (fun q => decide (q ≠ p)) → q ∈ S := fun q hq => (List.mem_filter.mp hq).1
  have up : ∀ {H : Hp}, Same (msk S H) (msk (S.filter fun q => decide (q ≠ p)) H) := msk_sub sub
  have npS : p ∉ S.filter (fun q => decide (q ≠ p)) := fun q => by
    have := (List.mem_filter.mp q).2
    simp at this
  refine ⟨S.filter fun q => decide (q ≠ p), b, Rs', R, ⟨fun q hq => s.ok.ob q (sub q hq), fun a ha => ⟨?_, (s.ok.bag a ha).2.up up⟩⟩, by rw [List.append_nil]; exact Exch.all up ((msk_out npS).trans ho) (h.up up hh) ex al, hc, fun u H' f ru => ?_⟩
  · refine List.mem_filter.mpr ⟨(s.ok.bag a ha).1, ?_⟩
    rw [decide_eq_true_eq]
    exact fun e => nb (by rw [ha, e])
  · have hp' : H' p = some o := msk_same _ _ (f.dat p o ((msk_out npS).trans ho))
    have hh' : h.P o (msk (S.filter fun q => decide (q ≠ p)) H') := h.up f.dat (h.up up hh)
    refine q u H' ⟨⟨fun z hz => ?_, fun a ha => ?_⟩, fun z oz ez => ?_, fun z hz nz => ?_⟩ (fr _ _ _ ru)
    · by_cases e : z = p
      · rw [e]
        exact ⟨o, hp', h.no hh⟩
      · exact f.ok.ob z (List.mem_filter.mpr ⟨hz, by simpa using e⟩)
    · obtain ⟨h1, c, xs, i1, r1, m1, n1, q1, q2, q3⟩ := f.ok.bag a ha
      refine ⟨sub _ h1, c, xs, i1, r1, m1, n1, q1, ?_, q3⟩
      have hcp : c ≠ p := fun e => by
        rw [e] at q2
        have := msk_same _ _ q2
        rw [hp'] at this
        exact ni o _ xs hh' (Option.some.inj this)
      have hcS : c ∉ S := fun hz => by
        have : c ∈ S.filter (fun q => decide (q ≠ p)) := List.mem_filter.mpr ⟨hz, by simpa using hcp⟩
        unfold msk at q2
        rw [if_pos this] at q2
        cases q2
      rw [msk_out hcS]
      exact msk_same _ _ q2
    · have hzS : z ∉ S := fun hz => by
        unfold msk at ez
        rw [if_pos hz] at ez
        cases ez
      have ez2 : H z = some oz := msk_same _ _ ez
      rw [msk_out hzS]
      exact msk_same _ _ (f.dat z oz ((msk_out fun hz => hzS (sub _ hz)).trans ez2))
    · by_cases e : z = p
      · rw [e, hp', ho]
      · exact f.hot z (List.mem_filter.mpr ⟨hz, by simpa using e⟩) nz
/-! ### promises -/
/-- a method's call: the instance -/
def IsIns (C : Addr) (m : Str) (R : Rep) : Prop := ∀ v M, R.P v M → ∃ a dx fs, v = .ref a ∧ M a = some (.ins C dx fs) ∧ fs.lookup m = none
theorem isIns_I (hm : m ∉ rf.map Prod.fst) : IsIns C m (rOf (hI C rf)) := fun v M q => by
  obtain ⟨a, o, e, ho, dx, fs, eo, h1, _⟩ := q
  subst eo
  exact ⟨a, dx, fs, e, ho, lookup_out (by rw [h1]; exact hm)⟩
theorem ev_mt {Cn : Option Addr → List Rep → Rep → Prop} {Rs : List Rep} {E : XK} (ha : EV b hs es ta Ra) (hi : IsIns C m Ra) (har : EA b hs es tar Rs) (hc : Cn b (Ra :: Rs) R) : EV b hs es (tMeth C m (SpD Cn) [] E ta tar) R := fun S σ H s Q q =>
  ha S σ H s _ fun x H1 f1 r1 => by
    obtain ⟨a, dx, fs, e, hh, hl⟩ := hi _ _ r1
    exact ⟨a, dx, fs, e, msk_same _ _ hh, hl, har S σ H1 (s.mono f1) _ fun vs H2 f2 r2 => ⟨S, b, Ra :: Rs, R, (f1.trans f2).ok, by rw [List.append_nil]; exact ⟨Ra.up f2.dat r1, r2⟩, hc, fun v H' f3 r3 => q v H' ((f1.trans f2).trans f3) r3⟩⟩
theorem en_mt {Cn : Option Addr → List Rep → HRep → Prop} {Rs : List Rep} {E : XK} (ha : EV b hs es ta Ra) (hi : IsIns C m Ra) (har : EA b hs es tar Rs) (hc : Cn b (Ra :: Rs) h) : EN b hs es (tMeth C m (SpN Cn) [] E ta tar) h := fun S σ H s Q q =>
  ha S σ H s _ fun x H1 f1 r1 => by
    obtain ⟨a, dx, fs, e, hh, hl⟩ := hi _ _ r1
    exact ⟨a, dx, fs, e, msk_same _ _ hh, hl, har S σ H1 (s.mono f1) _ fun vs H2 f2 r2 => ⟨S, b, Ra :: Rs, h, (f1.trans f2).ok, by rw [List.append_nil]; exact ⟨Ra.up f2.dat r1, r2⟩, hc, fun p o H' f3 e3 r3 => q p o H' (FrN.after (f1.trans f2) f3) e3 r3⟩⟩
/-- .. by keywords -/
theorem ev_mtK {Cn : Option Addr → List Rep → Rep → Prop} {Rk Rs : List Rep} {E : XK} {gV : List V → List V → List V} (ha : EV b hs es ta Ra) (hi : IsIns C m Ra) (hk : EA b hs es tkw Rk) (hg : ∀ x zs M, Ra.P x M → All2 Rk zs M → All2 Rs (gV [x] zs) M) (hc : Cn b Rs R) : EV b hs es (tMethK C m (SpD Cn) gV E ta tkw) R := fun S σ H s Q q =>
  ha S σ H s _ fun x H1 f1 r1 => by
    obtain ⟨a, dx, fs, e, hh, hl⟩ := hi _ _ r1
    exact ⟨a, dx, fs, e, msk_same _ _ hh, hl, hk S σ H1 (s.mono f1) _ fun zs H2 f2 r2 => ⟨S, b, Rs, R, (f1.trans f2).ok, hg _ _ _ (Ra.up f2.dat r1) r2, hc, fun v H' f3 r3 => q v H' ((f1.trans f2).trans f3) r3⟩⟩
/-- what an __init__ promises: the instance is filled -/
def SpI (C : Addr) (Ci : Option Addr → List Rep → HRep → Prop) : Sp := fun vs H Q _ => ∃ (S : List Addr) (b : Option Addr) (rs : List Rep) (h : HRep) (x dx : Addr) (H0 : Hp) (ws : List V), vs = .ref x :: ws ∧ H0 x = none ∧ H = upd H0 x (.ins C dx []) ∧ HpOk b S H0 ∧ All2 rs ws (msk S H0) ∧ Ci b rs h ∧
  ∀ o H', FrN b S H0 x H' → H' x = some o → h.P o (msk (x :: S) H') → Q .non H'
theorem en_make {Ci : Option Addr → List Rep → HRep → Prop} {n mm : Nat} {gV : List V → List V → List V} {E : XK} {Ra Rk Rs : List Rep} (ha : EA b hs es tar Ra) (hk : EA b hs es tkw Rk) (hn : Ra.length = n) (hm : Rk.length = mm) (hg : ∀ (x : V) (vs zs : List V) (M : Hp), All2 Ra vs M → All2 Rk zs M → ∃ ws, gV (x :: vs) zs = x :: ws ∧ All2 Rs ws M) (hc : Ci b Rs h) : EN b hs es (tMakeK C n mm (SpI C Ci) gV E tar tkw) h := fun S σ H s Q q =>
  ha S σ H s _ fun vs H1 f1 r1 => hk S σ H1 (s.mono f1) _ fun zs H2 f2 r2 => by
    have r1' := r1.up f2.dat
    refine ⟨by rw [r1.len, hn], by rw [r2.len, hm], fun x dx hx hdx hne => ?_⟩
    have f12 := f1.trans f2
    have fd : Fr b S H2 (upd H2 dx (.own x)) := Fr.new f2.ok hdx
    obtain ⟨ws, e, al⟩ := hg (.ref x) vs zs (msk S (upd H2 dx (.own x))) (r1'.up fd.dat) (r2.up fd.dat)
    refine ⟨S, b, Rs, h, x, dx, upd H2 dx (.own x), ws, e, by rw [upd_ne (fun z => hne z.symm)]; exact hx, rfl, fd.ok, al, hc, fun o H' fn ho hh => ⟨rfl, q x o H' (FrN.after (f12.trans fd) fn) ho hh⟩⟩
/-- .. a list among the places handed on, to read -/
def SpH (Cn : Option Addr → Hs → List Rep → Rep → Prop) : Sp := fun vs H Q _ => ∃ (S : List Addr) (b : Option Addr) (hs : Hs) (rs : List Rep) (R : Rep), HpOk b S H ∧ HotOk b S hs H ∧ (adr hs).Nodup ∧ All2 rs vs (msk S H) ∧ Cn b hs rs R ∧ ∀ v H', Fr b S H H' → R.P v (msk S H') → Q v H'
theorem ev_mtH {Cn : Option Addr → Hs → List Rep → Rep → Prop} {hu : Hs} {Rs : List Rep} {E : XK} (ha : EV b hs es ta Ra) (hi : IsIns C m Ra) (har : EA b hs es tar Rs) (hsub : ∀ x ∈ hu, x ∈ hs) (nd : (adr hu).Nodup) (hc : Cn b hu (Ra :: Rs) R) : EV b hs es (tMeth C m (SpH Cn) [] E ta tar) R := fun S σ H s Q q =>
  ha S σ H s _ fun x H1 f1 r1 => by
    obtain ⟨a, dx, fs, e, hh, hl⟩ := hi _ _ r1
    exact ⟨a, dx, fs, e, msk_same _ _ hh, hl, har S σ H1 (s.mono f1) _ fun vs H2 f2 r2 => ⟨S, b, hu, Ra :: Rs, R, (f1.trans f2).ok, fun z hz => ((s.mono f1).mono f2).ht z (hsub z hz), nd, by rw [List.append_nil]; exact ⟨Ra.up f2.dat r1, r2⟩, hc, fun v H' f3 r3 => q v H' ((f1.trans f2).trans f3) r3⟩⟩
theorem ev_mtHK {Cn : Option Addr → Hs → List Rep → Rep → Prop} {Rk Rs : List Rep} {E : XK} {gV : List V → List V → List V} (ha : EV b hs es ta Ra) (hi : IsIns C m Ra) (hk : EA b hs es tkw Rk) (hg : ∀ x zs M, Ra.P x M → All2 Rk zs M → All2 Rs (gV [x] zs) M) (hc : Cn b [] Rs R) : EV b hs es (tMethK C m (SpH Cn) gV E ta tkw) R := fun S σ H s Q q =>
  ha S σ H s _ fun x H1 f1 r1 => by
    obtain ⟨a, dx, fs, e, hh, hl⟩ := hi _ _ r1
    exact ⟨a, dx, fs, e, msk_same _ _ hh, hl, hk S σ H1 (s.mono f1) _ fun zs H2 f2 r2 => ⟨S, b, [], Rs, R, (f1.trans f2).ok, fun z hz => (by cases hz), List.nodup_nil, hg _ _ _ (Ra.up f2.dat r1) r2, hc, fun v H' f3 r3 => q v H' ((f1.trans f2).trans f3) r3⟩⟩
/-- .. several new things -/
structure FrM (b : Option Addr) (S : List Addr) (H : Hp) (hs : Hs) (H' : Hp) : Prop where
  nd : (adr hs).Nodup
  new : ∀ p ∈ adr hs, p ∉ S
  ok : HpOk b (adr hs ++ S) H'
  dat : Same (msk S H) (msk (adr hs ++ S) H')
  hot : ∀ q ∈ S, b ≠ some q → H' q = H q
  at_ : ∀ x ∈ hs, ∃ o, H' x.1 = some o ∧ x.2.P o (msk (adr hs ++ S) H')
theorem FrM.after (f : Fr b S H H1) (g : FrM b S H1 hs H') : FrM b S H hs H' := ⟨g.nd, g.new, g.ok, f.dat.trans g.dat, fun q hq n => (g.hot q hq n).trans (f.hot q hq n), g.at_⟩
theorem FrM.fr (f : FrM b S H hs H') (k : HpOk b S H) : Fr b S H H' := by
  refine ⟨⟨fun q hq => f.ok.ob q (List.mem_append_right _ hq), fun a ha => ?_⟩, f.dat.trans (msk_sub fun q hq => List.mem_append_right _ hq), f.hot⟩
  exact ⟨(k.bag a ha).1, (f.ok.bag a ha).2.up (msk_sub fun q hq => List.mem_append_right _ hq)⟩
def SpM (Cn : Option Addr → List Rep → (Addr → Hs → Prop) → Prop) : Sp := fun vs H Q _ => ∃ (S : List Addr) (b : Option Addr) (rs : List Rep) (G : Addr → Hs → Prop), HpOk b S H ∧ All2 rs vs (msk S H) ∧ Cn b rs G ∧ ∀ p hn H', G p hn → FrM b S H hn H' → Q (.ref p) H'
theorem Sat.addM {hn : Hs} (s : Sat B hs es σ H) (f : FrM B.b (B.S hs) H hn H') : Sat B (hn ++ hs) es σ H' := by
  have eS : B.S (hn ++ hs) = adr hn ++ B.S hs := by
    unfold Bs.S adr
    rw [List.map_append, List.append_assoc]
  refine ⟨⟨by rw [eS]; exact f.ok, by rw [eS]; exact s.e.sl.up f.dat, fun x hx => ?_⟩, ?_, ?_, by rw [eS]; exact s.dat.trans f.dat, fun q hq n => (f.hot q (List.mem_append_right _ hq) n).trans (s.keep q hq n), s.bin, fun g hg => by rw [eS]; exact g.2.up f.dat (s.gh g hg)⟩
  · rw [eS]
    rcases List.mem_append.mp hx with hx | hx
    · have hp : x.1 ∈ adr hn := List.mem_map.mpr ⟨x, hx, rfl⟩
      obtain ⟨o, h1, h2⟩ := f.at_ x hx
      exact ⟨List.mem_append_left _ hp, fun e => f.new _ hp (List.mem_append_right _ (s.bin _ e)), o, h1, h2⟩
    · obtain ⟨h1, h2, o1, h3, h4⟩ := s.e.ht x hx
      exact ⟨List.mem_append_right _ h1, h2, o1, (f.hot _ h1 h2).trans h3, x.2.up f.dat h4⟩
  · show ((hn ++ hs).map Prod.fst).Nodup
    rw [List.map_append, List.nodup_append]
    exact ⟨f.nd, s.nd, fun a ha c hc e => f.new a ha (List.mem_append_left _ (by rw [e]; exact hc))⟩
  · intro q hq
    have hq : q ∈ (hn ++ hs).map Prod.fst := hq
    rw [List.map_append] at hq
    rcases List.mem_append.mp hq with hq | hq
    · exact fun z => f.new q hq (List.mem_append_right _ z)
    · exact s.out q hq
theorem q_mtM {Cn : Option Addr → List Rep → (Addr → Hs → Prop) → Prop} {Rs : List Rep} {E : XK} {G : Addr → Hs → Prop} {i : Nat} (ha : EV B.b hs es ta Ra) (hi : IsIns C m Ra) (har : EA B.b hs es tar Rs) (hc : Cn B.b (Ra :: Rs) G) (k : ∀ p hn, G p hn → N B (hn ++ hs) (es.set i (some (rAt p))) (tz D)) : N B hs es (tSeq (tAsg (tMeth C m (SpM Cn) [] E ta tar) (gName i)) tz D) := fun σ H s =>
  ha _ σ H s.e _ fun x H1 f1 r1 => by
    obtain ⟨a, dx, fs, e, hh, hl⟩ := hi _ _ r1
    refine ⟨a, dx, fs, e, msk_same _ _ hh, hl, har _ σ H1 (s.e.mono f1) _ fun vs H2 f2 r2 => ⟨B.S hs, B.b, Ra :: Rs, G, (f1.trans f2).ok, by rw [List.append_nil]; exact ⟨Ra.up f2.dat r1, r2⟩, hc, fun p hn H' hG f3 => ?_⟩⟩
    have s2 := (s.mono f1).mono f2
    exact k p hn hG _ _ ((s2.addM f3).set i (R := rAt p) rfl)
/-- .. as data -/
theorem ev_mtM {Cn : Option Addr → List Rep → (Addr → Hs → Prop) → Prop} {Rs : List Rep} {E : XK} {G : Addr → Hs → Prop} (ha : EV b hs es ta Ra) (hi : IsIns C m Ra) (har : EA b hs es tar Rs) (hc : Cn b (Ra :: Rs) G) (up : ∀ p hn S H H', G p hn → FrM b S H hn H' → R.P (.ref p) (msk S H')) : EV b hs es (tMeth C m (SpM Cn) [] E ta tar) R := fun S σ H s Q q =>
  ha S σ H s _ fun x H1 f1 r1 => by
    obtain ⟨a, dx, fs, e, hh, hl⟩ := hi _ _ r1
    exact ⟨a, dx, fs, e, msk_same _ _ hh, hl, har S σ H1 (s.mono f1) _ fun vs H2 f2 r2 => ⟨S, b, Ra :: Rs, G, (f1.trans f2).ok, by rw [List.append_nil]; exact ⟨Ra.up f2.dat r1, r2⟩, hc, fun p hn H' hG f3 => q _ H' ((f1.trans f2).trans (f3.fr f2.ok)) (up p hn S H2 H' hG f3)⟩⟩
end
section
variable {P : Program} {w : World} {K : PySem.W.Frag} {mg : Str → Option Value} {base : Heap} {x qual : Str} {params : Arguments} {body : List Stmt} {scope : Scope} {kws : List (Str × V)} {f : Addr} {fd : FuncData} {Nm ps : List Str} {k : Nat} {C : Addr}
theorem fnM (F : FunD K x qual params body scope [] kws f fd) (sc : FnScope Nm ps scope) (Cn : Option Addr → List Rep → (Addr → Hs → Prop) → Prop) (hlen : ∀ b rs G, Cn b rs G → rs.length = ps.length)
    (hbody : ∀ (cdv : Value) (A : Around) (outer : List Env) (s : Shared) (H : Hp) (E : XK), Room k (A.deeper (envOfC qual scope s.heap.objs.size f cdv)) →
      ∃ t, PSs (cxOf CX0 P w K mg base Nm qual scope f cdv A outer s H E).nox body t ∧ ∀ (B : Bs) (Q : VK) (rs : List Rep) (G : Addr → Hs → Prop), Cn B.b rs G → B.gs = [] → (∀ p hn H', G p hn → FrM B.b B.S0 B.H0 hn H' → Q (.ref p) H') → N B [] (esOf Nm rs) (t { nx := fun _ H' => Q .non H', rt := Q })) :
    FnOk P w K mg base CX0 (k + 1) f fd ps (SpM Cn) := by
  refine F.ok sc (fun vs H Q E h => ?_) (fun cdv A outer s H vs Q E hr h => ?_)
  · obtain ⟨S, b, rs, R, ok, al, hC, _⟩ := h
    rw [al.len, hlen b rs R hC]
  · obtain ⟨S, b, rs, R, ok, al, hC, q⟩ := h
    obtain ⟨t, ht, hb⟩ := hbody cdv A outer s H E hr
    refine ⟨t, ht.nox, hb ⟨b, S, H, []⟩ Q rs R hC rfl q _ _ ?_⟩
    exact ⟨⟨ok, start_slots Nm al al.len, fun x hx => by cases hx⟩, List.nodup_nil, fun p hp => (by cases hp), Same.refl _, fun _ _ _ => rfl, fun a ha => (ok.bag a ha).1, fun g hg => by cases hg⟩
theorem fnI (F : FunD K x qual params body scope [] kws f fd) (sc : FnScope Nm ps scope) (C : Addr) (Ci : Option Addr → List Rep → HRep → Prop) (hlen : ∀ b rs h, Ci b rs h → rs.length + 1 = ps.length)
    (hbody : ∀ (cdv : Value) (A : Around) (outer : List Env) (s : Shared) (H : Hp) (E : XK), Room k (A.deeper (envOfC qual scope s.heap.objs.size f cdv)) →
      ∃ t, PSs (cxOf CX0 P w K mg base Nm qual scope f cdv A outer s H E).nox body t ∧ ∀ (B : Bs) (Q : VK) (rs : List Rep) (h : HRep) (x : Addr), Ci B.b rs h → B.gs = [] → (∀ o H', FrN B.b B.S0 B.H0 x H' → H' x = some o → h.P o (msk (x :: B.S0) H') → Q .non H') → N B [(x, hI C [])] (esOf Nm (rAt x :: rs)) (t { nx := fun _ H' => Q .non H', rt := Q })) :
    FnOk P w K mg base CX0 (k + 1) f fd ps (SpI C Ci) := by
  refine F.ok sc (fun vs H Q E h => ?_) (fun cdv A outer s H vs Q E hr h => ?_)
  · obtain ⟨S, b, rs, h, x, dx, H0, ws, e, _, _, _, al, hC, _⟩ := h
    rw [e, List.length_cons, al.len, hlen b rs h hC]
  · obtain ⟨S, b, rs, h, x, dx, H0, ws, e, hx, eH, ok, al, hC, q⟩ := h
    subst e eH
    obtain ⟨t, ht, hb⟩ := hbody cdv A outer s _ E hr
    have nx : x ∉ S := new_out ok hx
    have em : msk (x :: S) (upd H0 x (.ins C dx [])) = msk S H0 := msk_cons hx
    refine ⟨t, ht.nox, hb ⟨b, S, H0, []⟩ Q rs h x hC rfl q _ _ ?_⟩
    refine ⟨⟨ok.hot hx rfl, ?_, fun z hz => ?_⟩, ?_, fun p hp => ?_, ?_, fun q hq n => ?_, fun a ha => (ok.bag a ha).1, fun g hg => by cases hg⟩
    · show Slots (msk (x :: S) (upd H0 x (.ins C dx []))) _ _
      rw [em]
      have al2 : All2 (rAt x :: rs) (.ref x :: ws) (msk S H0) := ⟨rfl, al⟩
      exact start_slots Nm al2 al2.len
    · rw [List.mem_singleton.mp hz]
      exact ⟨List.mem_cons_self, fun e => nx (ok.bag x e).1, _, upd_same, dx, [], rfl, rfl, True.intro⟩
    · exact List.nodup_cons.mpr ⟨fun q => (nomatch q), List.nodup_nil⟩
    · rw [List.mem_singleton.mp hp]
      exact nx
    · show Same (msk S H0) (msk (x :: S) _)
      rw [em]
      exact Same.refl _
    · exact upd_ne fun e => nx (by rw [← e]; exact hq)
theorem fnH (F : FunD K x qual params body scope [] kws f fd) (sc : FnScope Nm ps scope) (Cn : Option Addr → Hs → List Rep → Rep → Prop) (hlen : ∀ b hs rs R, Cn b hs rs R → rs.length = ps.length)
    (hbody : ∀ (cdv : Value) (A : Around) (outer : List Env) (s : Shared) (H : Hp) (E : XK), Room k (A.deeper (envOfC qual scope s.heap.objs.size f cdv)) →
      ∃ t, PSs (cxOf CX0 P w K mg base Nm qual scope f cdv A outer s H E).nox body t ∧ ∀ (B : Bs) (S : List Addr) (Hc : Hp) (Q : VK) (hs : Hs) (rs : List Rep) (R : Rep), Cn B.b hs rs R → B.gs = [] → (adr hs).Nodup → (∀ x ∈ hs, ∃ o M, Hc x.1 = some o ∧ x.2.P o M) →
        (∀ (es : Es) (σ : L2.St) (H' : Hp) (hs' : Hs), (∀ x ∈ hs, (x.1, hEX Hc x) ∈ hs') → Sat B hs' es σ H' → Fr B.b S Hc H' ∧ ∀ q ∈ S, q ∈ B.S hs') → (∀ v H', Fr B.b S Hc H' → R.P v (msk S H') → Q v H') → N B (hs.map fun x => (x.1, hEX Hc x)) (esOf Nm rs) (t { nx := fun _ H' => Q .non H', rt := Q })) :
    FnOk P w K mg base CX0 (k + 1) f fd ps (SpH Cn) := by
  refine F.ok sc (fun vs H Q E h => ?_) (fun cdv A outer s H vs Q E hr h => ?_)
  · obtain ⟨S, b, hs, rs, R, ok, ht, nd, al, hC, _⟩ := h
    rw [al.len, hlen b hs rs R hC]
  · obtain ⟨S, b, hs, rs, R, ok, ht, nd, al, hC, q⟩ := h
    obtain ⟨t, htt, hb⟩ := hbody cdv A outer s H E hr
    have inS0 : ∀ p, p ∈ S.filter (fun p => decide (p ∉ adr hs)) ↔ p ∈ S ∧ p ∉ adr hs := fun p => by rw [List.mem_filter, decide_eq_true_eq]
    have inA : ∀ p, p ∈ adr hs → p ∈ S := fun p hp => by
      obtain ⟨z, hz, e⟩ := List.mem_map.mp hp
      exact e ▸ (ht z hz).1
    have cov : ∀ p, p ∈ S ↔ p ∈ adr hs ++ S.filter (fun p => decide (p ∉ adr hs)) := fun p => by
      rw [List.mem_append, inS0]
      constructor
      · intro h
        by_cases hp : p ∈ adr hs
        · exact .inl hp
        · exact .inr ⟨h, hp⟩
      · rintro (h | h)
        · exact inA p h
        · exact h.1
    let B : Bs := ⟨b, S.filter (fun p => decide (p ∉ adr hs)), fun p => if p ∈ adr hs then none else H p, []⟩
    have eA : adr (hs.map fun x => (x.1, hEX H x)) = adr hs := by
      unfold adr
      rw [List.map_map]
      rfl
    have em : ∀ H' : Hp, msk (adr hs ++ B.S0) H' = msk S H' := fun H' => msk_congr fun p => cov p
    have em0 : msk B.S0 B.H0 = msk S H := by
      funext p
      unfold msk
      by_cases hp : p ∈ adr hs
      · have h1 : p ∉ B.S0 := fun q => ((inS0 p).mp q).2 hp
        rw [if_neg h1, if_pos (inA p hp)]
        show (if p ∈ adr hs then none else H p) = none
        rw [if_pos hp]
      · by_cases hpS : p ∈ S
        · rw [if_pos hpS, if_pos ((inS0 p).mpr ⟨hpS, hp⟩)]
        · rw [if_neg hpS, if_neg fun q => hpS ((inS0 p).mp q).1]
          show (if p ∈ adr hs then none else H p) = H p
          rw [if_neg hp]
    have nbA : ∀ p, p ∈ adr hs → b ≠ some p := fun p hp => by
      obtain ⟨z, hz, e⟩ := List.mem_map.mp hp
      exact e ▸ (ht z hz).2.1
    refine ⟨t, htt.nox, hb B S H Q hs rs R hC rfl nd (fun z hz => ?_) (fun es σ H' hs' hin st => ⟨?_, fun q hq => ?_⟩) q _ _ ?_⟩
    · obtain ⟨_, _, o, h1, h2⟩ := ht z hz
      exact ⟨o, _, h1, h2⟩
    · have sS : ∀ q ∈ S, q ∈ B.S hs' := fun q hq => by
        by_cases hp : q ∈ adr hs
        · obtain ⟨z, hz, e⟩ := List.mem_map.mp hp
          exact List.mem_append_left _ (List.mem_map.mpr ⟨_, hin z hz, e⟩)
        · exact List.mem_append_right _ ((inS0 q).mpr ⟨hq, hp⟩)
      refine ⟨⟨fun p hp => st.e.ok.ob p (sS p hp), fun a ha => ⟨(ok.bag a ha).1, (st.e.ok.bag a ha).2.up (msk_sub sS)⟩⟩, ?_, fun p hp n => ?_⟩
      · have := st.dat
        rw [em0] at this
        exact this.trans (msk_sub sS)
      · by_cases hpa : p ∈ adr hs
        · obtain ⟨z, hz, e⟩ := List.mem_map.mp hpa
          obtain ⟨_, _, o, h1, h2, _⟩ := st.e.ht _ (hin z hz)
          have h1 : H' z.1 = some o := h1
          have h2 : H z.1 = some o := h2
          rw [← e, h1, h2]
        · have := st.keep p ((inS0 p).mpr ⟨hp, hpa⟩) n
          rw [this]
          show (if p ∈ adr hs then none else H p) = H p
          rw [if_neg hpa]
    · by_cases hp : q ∈ adr hs
      · obtain ⟨z, hz, e⟩ := List.mem_map.mp hp
        exact List.mem_append_left _ (List.mem_map.mpr ⟨_, hin z hz, e⟩)
      · exact List.mem_append_right _ ((inS0 q).mpr ⟨hq, hp⟩)
    · have eS : B.S (hs.map fun x => (x.1, hEX H x)) = adr hs ++ B.S0 := by
        unfold Bs.S
        rw [eA]
      refine ⟨⟨?_, ?_, fun z hz => ?_⟩, by rw [eA]; exact nd, fun p hp => ?_, ?_, fun p hp n => ?_, fun a ha => ?_, fun g hg => by cases hg⟩
      · rw [eS]
        exact ⟨fun p hp => ok.ob p ((cov p).mpr hp), fun a ha => ⟨(cov a).mp (ok.bag a ha).1, by rw [em]; exact (ok.bag a ha).2⟩⟩
      · rw [eS, em]
        exact start_slots Nm al al.len
      · obtain ⟨y, hy, e⟩ := List.mem_map.mp hz
        obtain ⟨h1, h2, o, h3, h4⟩ := ht y hy
        rw [← e, eS, em]
        exact ⟨List.mem_append_left _ (List.mem_map.mpr ⟨y, hy, rfl⟩), h2, o, h3, h3, h4⟩
      · rw [eA] at hp
        exact fun q => ((inS0 p).mp q).2 hp
      · rw [eS, em, em0]
        exact Same.refl _
      · show H p = if p ∈ adr hs then none else H p
        rw [if_neg ((inS0 p).mp hp).2]
      · exact (inS0 a).mpr ⟨(ok.bag a ha).1, fun hp => nbA a hp ha⟩
/-- called by keywords -/
theorem kbD (F : FunD K x qual params body scope [] kws f fd) (ks : List Str) (g : {α : Type} → List α → List α → List α)
    (hrel : ∀ {vs : List V} {us : List Value} {zs : List V} {ws : List Value}, Vals vs us → Vals zs ws → Vals (g vs zs) (g us ws))
    (h : ∀ (kV doc pm : Value) (an : Option Addr) (cdv ct : Value) (us ws : List Value), (g us ws).length = ps.length → bindArgs (PySem.W.fnOf x qual params body scope .none kV doc pm an cdv ct) ⟨us, ks.zip ws⟩ = pure (ps.zip (g us ws))) : KBinds K fd ps ks (fun us ws => g us ws) (fun vs zs => g vs zs) := by
  obtain ⟨oc, od, dV, kV, doc, pm, an, cdv, ct, osl, rfl, lk, hcd, hD, hK⟩ := F.ex
  rcases hD with ⟨_, rfl⟩ | ⟨e, _⟩
  · exact ⟨fun s us ws _ hl => .of_eq (h kV doc pm an cdv ct us ws hl), fun r1 r2 => hrel r1 r2⟩
  · exact absurd rfl e
theorem kbnD (F : FunD K x qual params body scope [] kws f fd) (n : Nat) (ks : List Str) (g : {α : Type} → List α → List α → List α)
    (hrel : ∀ {vs : List V} {us : List Value} {zs : List V} {ws : List Value}, Vals vs us → Vals zs ws → Vals (g vs zs) (g us ws))
    (h : ∀ (kV doc pm : Value) (an : Option Addr) (cdv ct : Value) (us ws : List Value), us.length = n → ws.length = ks.length → bindArgs (PySem.W.fnOf x qual params body scope .none kV doc pm an cdv ct) ⟨us, ks.zip ws⟩ = pure (ps.zip (g us ws))) : KBn K fd ps n ks (fun us ws => g us ws) (fun vs zs => g vs zs) := by
  obtain ⟨oc, od, dV, kV, doc, pm, an, cdv, ct, osl, rfl, lk, hcd, hD, hK⟩ := F.ex
  rcases hD with ⟨_, rfl⟩ | ⟨e, _⟩
  · exact ⟨fun s us ws _ l1 l2 => .of_eq (h kV doc pm an cdv ct us ws l1 l2), fun r1 r2 => hrel r1 r2⟩
  · exact absurd rfl e
end
section
variable {B : Bs} {S : List Addr} {hs hs' : Hs} {es es' : Es} {σ : L2.St} {H H1 H' Hc : Hp} {te : TE} {R : Rep} {K : PySem.W.Frag} {h : HRep} {D : Ends} {T : L2.St → Hp → Prop}
/-- return, some places handed in -/
theorem w_retG (fin : ∀ σ H', Sat B hs es σ H' → Fr B.b S Hc H' ∧ ∀ q ∈ S, q ∈ B.S hs) (e : EV B.b hs es te R) (k : ∀ v H', Fr B.b S Hc H' → R.P v (msk S H') → D.rt v H') : N B hs es (tRet te D) := fun σ H s =>
  e _ σ H s.e _ fun v H1 f r => by
    obtain ⟨h1, h2⟩ := fin σ H1 (s.mono f)
    exact k v H1 h1 (R.up (msk_sub h2) r)
/-- the end of an __init__ -/
theorem n_fallI {x : Addr} {Q : VK} (k : ∀ o H', FrN B.b B.S0 B.H0 x H' → H' x = some o → h.P o (msk (x :: B.S0) H') → Q .non H') : N B [(x, h)] es (fun _ H' => Q .non H') := fun σ' H s => by
  obtain ⟨h1, h2, o, h3, h4⟩ := s.e.ht _ List.mem_cons_self
  exact k o H ⟨s.out x List.mem_cons_self, s.e.ok, s.dat, s.keep⟩ h3 h4
end
end L2.K9A
end
section
set_option Elab.async false
set_option linter.all false
set_option maxRecDepth 100000
set_option maxHeartbeats 2000000
namespace L2.K9A
open PySem PySem.Spec PyProof.Rows L2 L2.K9R
/-- places by number -/
def nestF (ad : Nat → Addr) (gf : Nat → HRep) (n : Nat) : Hs := (List.range n).map fun i => (ad i, gf i)
theorem nestF_succ {ad : Nat → Addr} {gf : Nat → HRep} {n : Nat} : nestF ad gf (n + 1) = nestF ad gf n ++ [(ad n, gf n)] := by
  unfold nestF
  rw [List.range_succ, List.map_append]
  rfl
theorem nestF_congr {ad ad' : Nat → Addr} {gf gf' : Nat → HRep} {n : Nat} (h : ∀ i, i < n → ad i = ad' i ∧ gf i = gf' i) : nestF ad gf n = nestF ad' gf' n := by
  unfold nestF
  exact List.map_congr_left fun i hi => by rw [(h i (List.mem_range.mp hi)).1, (h i (List.mem_range.mp hi)).2]
theorem nestF_len {ad : Nat → Addr} {gf : Nat → HRep} {n : Nat} : (nestF ad gf n).length = n := by
  unfold nestF
  rw [List.length_map, List.length_range]
theorem nestF_at {ad : Nat → Addr} {gf : Nat → HRep} {n i : Nat} {hs : Hs} (hi : i < n) : (nestF ad gf n ++ hs)[i]? = some (ad i, gf i) := by
  rw [List.getElem?_append_left (by rw [nestF_len]; exact hi)]
  unfold nestF
  rw [List.getElem?_map, List.getElem?_range hi]
  rfl
theorem nestF_set {ad : Nat → Addr} {gf : Nat → HRep} {n i : Nat} {hs : Hs} {h : HRep} (hi : i < n) : (nestF ad gf n ++ hs).set i (ad i, h) = nestF ad (fun m => if m = i then h else gf m) n ++ hs := by
  rw [List.set_append_left _ _ (by rw [nestF_len]; exact hi)]
  congr 1
  apply List.ext_getElem?
  intro j
  unfold nestF
  by_cases e : i = j
  · subst e
    rw [List.getElem?_set_self (by rw [List.length_map, List.length_range]; exact hi), List.getElem?_map, List.getElem?_range hi]
    simp
  · rw [List.getElem?_set_ne e, List.getElem?_map, List.getElem?_map]
    by_cases hj : j < n
    · rw [List.getElem?_range hj]
      have hne : ¬ j = i := fun q => e q.symm
      simp [hne]
    · rw [List.getElem?_eq_none (by rw [List.length_range]; omega)]
      rfl
theorem All2.conv {α : Type} {f g : α → Rep} {M M' : Hp} : ∀ {xs : List α} {vs : List V}, All2 (xs.map f) vs M → (∀ x ∈ xs, ∀ v, (f x).P v M → (g x).P v M') → All2 (xs.map g) vs M'
  | [], [], _, _ => True.intro
  | x :: xs, v :: vs, h, k => ⟨k x List.mem_cons_self v h.1, All2.conv h.2 fun y hy => k y (List.mem_cons_of_mem _ hy)⟩
  | [], _ :: _, h, _ => h.elim
  | _ :: _, [], h, _ => h.elim
section
variable {B : Bs} {b : Option Addr} {S : List Addr} {hs hs' : Hs} {es es' : Es} {σ : L2.St} {H H1 H' : Hp} {ta tb tc te tk tv to ti : TE} {tt tu : TT} {tar : TA} {R Ra Rb Rc : Rep} {K : PySem.W.Frag} {h : HRep} {D : Ends} {t1 t2 tbd tz : TS} {T : L2.St → Hp → Prop} {wi : TI} {g : TG} {C : Addr}
theorem Sat.perm (s : Sat B hs es σ H) (hp : hs'.Perm hs) : Sat B hs' es σ H := by
  have ha : (adr hs').Perm (adr hs) := hp.map Prod.fst
  have hm : ∀ p, p ∈ B.S hs' ↔ p ∈ B.S hs := fun p => by
    unfold Bs.S
    rw [List.mem_append, List.mem_append, ha.mem_iff]
  have em : msk (B.S hs) H = msk (B.S hs') H := msk_congr hm
  refine ⟨⟨⟨fun p hp' => s.e.ok.ob p ((hm p).mp hp'), fun a ha' => ⟨(hm a).mpr (s.e.ok.bag a ha').1, by rw [← em]; exact (s.e.ok.bag a ha').2⟩⟩, by rw [← em]; exact s.e.sl, fun x hx => ?_⟩, ha.nodup_iff.mpr s.nd, fun p hp' => s.out p (ha.mem_iff.mp hp'), by rw [← em]; exact s.dat, s.keep, s.bin, by rw [← em]; exact s.gh⟩
  obtain ⟨h1, h2, h3⟩ := s.e.ht x (hp.mem_iff.mp hx)
  exact ⟨(hm _).mpr h1, h2, by rw [← em]; exact h3⟩
theorem n_perm (hp : hs'.Perm hs) (k : N B hs' es T) : N B hs es T := fun σ H s => k σ H (s.perm hp)
/-- one of several -/
theorem n_hex {α : Type} {P : α → Prop} {f : α → HRep} {p : Addr} {n : Nat} (hn : hs[n]? = some (p, hEx P f)) (k : ∀ x, P x → N B (hs.set n (p, f x)) es T) : N B hs es T := fun σ H s => by
  obtain ⟨h1, h2, o, h3, x, px, h4⟩ := s.e.ht _ (List.mem_of_getElem? hn)
  have s2 := s.put (h' := f x) (o := o) hn h4
  have e : upd H p o = H := by
    funext q
    by_cases e : q = p
    · subst e
      rw [upd_same]
      exact h3.symm
    · rw [upd_ne e]
  rw [e] at s2
  exact k x px σ H s2
/-- a value of several, opened -/
theorem n_exO {α : Type} {P : α → Prop} {f : α → HRep} {i : Nat} (hi : es[i]? = some (some (rOf (hEx P f)))) (k : ∀ x, P x → N B hs (es.set i (some (rOf (f x)))) T) : N B hs es T := n_up (Ra := rEx P fun x => rOf (f x)) hi (fun v M q => by
  obtain ⟨a, o, e1, e2, x, px, q⟩ := q
  exact ⟨x, px, a, o, e1, e2, q⟩) (n_ex (by
    rw [List.getElem?_set_self (List.getElem?_eq_some_iff.mp hi).1]) fun x px => by
    rw [List.set_set]
    exact k x px)
/-- [e for x in xs], each e a new thing of its own -/
theorem n_lcN {β : Type} {F : β → Rep} {js vs : List Nat} {f : β → Es → Es} {ys : List β} {gf : Nat → HRep} {Q : VK} (src : SRC B.b hs es wi (ys.map F)) (hg : ∀ y ∈ ys, GT B.b g (F y) js (f y)) (hj : ∀ j, j ∈ js → j ∈ vs) (hl : ys.length ≤ 100000)
    (he : ∀ i y, ys[i]? = some y → EN B.b hs (f y (wipeE es vs)) te (gf i))
    (k : ∀ (p : Addr) (ad : Nat → Addr) (σ : L2.St) (H : Hp), Sat B (nestF ad gf ys.length ++ (p, hL ((List.range ys.length).map fun i => rAt (ad i))) :: hs) es σ H → Q (.ref p) H) : N B hs es (fun σ H => tLc wi g tYes te vs σ H Q) := fun σ H s => by
  refine src _ σ H s.e _ fun J H1 G Y fr hG wk hY => fun d hD => ?_
  rw [List.length_map] at wk
  have s1 := s.mono fr
  have sa : Sat B ((d, hL []) :: hs) es σ (upd H1 d (.lst [])) := s1.add (FrN.mk' (Fr.refl s1.e.ok) hD rfl) upd_same ⟨[], rfl, True.intro⟩
  refine lc_it wk (fun i Hx => i ≤ ys.length ∧ ∃ ad : Nat → Addr, Sat B (nestF ad gf i ++ (d, hL ((List.range i).map fun j => rAt (ad j))) :: hs) es σ Hx ∧
      Same (msk (B.S hs) H1) (msk (B.S (nestF ad gf i ++ (d, hL ((List.range i).map fun j => rAt (ad j))) :: hs)) Hx)) ⟨Nat.zero_le _, fun _ => d, sa, ?_⟩ ?_ ?_ ?_
  · show Same (msk (B.S hs) H1) (msk (d :: B.S hs) (upd H1 d (.lst [])))
    rw [msk_cons hD]
    exact Same.refl _
  · intro i Hx hi p
    obtain ⟨_, ad, _, sm⟩ := p
    exact ⟨_, G.up sm hG⟩
  · intro i x Hx Hy hi p y
    obtain ⟨hle, ad, si, sm⟩ := p
    have hR : ys[i]? = some ys[i] := List.getElem?_eq_getElem hi
    have hm := List.getElem_mem hi
    obtain ⟨f1, r1⟩ := hY _ i (F ys[i]) Hx x Hy (by rw [List.getElem?_map, hR]; rfl) si.e.ok (G.up sm hG) y
    have s2 := si.mono f1
    have stx : SatE B.b (B.S (nestF ad gf i ++ (d, hL ((List.range i).map fun j => rAt (ad j))) :: hs)) hs (wipeE es vs) (wipe σ vs) Hy := ⟨s2.e.ok, s2.e.sl.wipe vs, fun z hz => s2.e.ht z (List.mem_append_right _ (List.mem_cons_of_mem _ hz))⟩
    refine hg _ hm _ _ _ Hy x stx.sl r1 _ fun σ2 sl2 k2 l2 => ⟨wipe_eq (fun k hk => k2 k fun q => hk (hj k q)) l2, ?_⟩
    have stx2 : SatE B.b _ hs _ σ2 Hy := ⟨stx.ok, sl2, stx.ht⟩
    refine et_yes _ σ2 Hy stx2 _ fun c H3 f3 pc => ?_
    subst pc
    rw [if_pos rfl]
    refine he i _ hR _ σ2 H3 (stx2.mono f3) _ fun p o H5 f5 ho hh => ?_
    have s4 := s2.mono f3
    have s5 := s4.add f5 ho hh
    have hdm : (d, hL ((List.range i).map fun j => rAt (ad j))) ∈ (p, gf i) :: (nestF ad gf i ++ (d, hL ((List.range i).map fun j => rAt (ad j))) :: hs) := List.mem_cons_of_mem _ (List.mem_append_right _ List.mem_cons_self)
    obtain ⟨_, _, od, hd5, ws, eo, al⟩ := s5.e.ht _ hdm
    subst eo
    have hlen : ws.length = i := by rw [al.len, List.length_map, List.length_range]
    let ad' : Nat → Addr := fun j => if j = i then p else ad j
    have hne : ∀ j, j < i → ad' j = ad j := fun j hj => if_neg (by omega)
    refine ⟨ws, hd5, by rw [hlen]; exact Nat.lt_of_lt_of_le (Nat.lt_of_lt_of_le hi hl) (by decide), hi, ad', ?_⟩
    have hput := s5.put (k := ((p, gf i) :: nestF ad gf i).length) (p := d) (h' := hL ((List.range (i + 1)).map fun j => rAt (ad' j))) (o := .lst (ws ++ [.ref p])) (at_mid (l := (p, gf i) :: nestF ad gf i)) ⟨_, rfl, by
      rw [List.range_succ, List.map_append]
      refine All2.app (rs' := [rAt (ad' i)]) (vs' := [.ref p]) ⟨congrArg V.ref (if_pos rfl).symm, True.intro⟩ ?_
      exact All2.conv (f := fun j => rAt (ad j)) al fun j hj v hv => by
        show v = .ref (ad' j)
        rw [hne j (List.mem_range.mp hj)]
        exact hv⟩
    have es1 := set_mid (l := (p, gf i) :: nestF ad gf i) (x := (d, hL ((List.range i).map fun j => rAt (ad j)))) (y := (d, hL ((List.range (i + 1)).map fun j => rAt (ad' j)))) (r := hs)
    have hput2 : Sat B (((p, gf i) :: nestF ad gf i) ++ (d, hL ((List.range (i + 1)).map fun j => rAt (ad' j))) :: hs) es σ (upd H5 d (.lst (ws ++ [.ref p]))) := es1 ▸ hput
    have en : nestF ad' gf (i + 1) = nestF ad gf i ++ [(p, gf i)] := by
      rw [nestF_succ, show ad' i = p from if_pos rfl, nestF_congr fun j hj => ⟨hne j hj, rfl⟩]
    have hpm : (nestF ad' gf (i + 1) ++ (d, hL ((List.range (i + 1)).map fun j => rAt (ad' j))) :: hs).Perm (((p, gf i) :: nestF ad gf i) ++ (d, hL ((List.range (i + 1)).map fun j => rAt (ad' j))) :: hs) := by
      rw [en]
      exact List.Perm.append_right _ (List.perm_append_singleton _ _)
    refine ⟨hput2.perm hpm, ?_⟩
    have f15 := f1.trans f3
    have eS : B.S (((p, gf i) :: nestF ad gf i) ++ (d, hL ((List.range (i + 1)).map fun j => rAt (ad' j))) :: hs) = p :: B.S (nestF ad gf i ++ (d, hL ((List.range i).map fun j => rAt (ad j))) :: hs) := by
      simp [Bs.S, adr]
    have em : msk (B.S (nestF ad' gf (i + 1) ++ (d, hL ((List.range (i + 1)).map fun j => rAt (ad' j))) :: hs)) (upd H5 d (.lst (ws ++ [.ref p]))) = msk (B.S (((p, gf i) :: nestF ad gf i) ++ (d, hL ((List.range (i + 1)).map fun j => rAt (ad' j))) :: hs)) (upd H5 d (.lst (ws ++ [.ref p]))) := msk_congr fun z => by
      unfold Bs.S
      rw [List.mem_append, List.mem_append, (hpm.map Prod.fst).mem_iff]
    rw [em, eS, msk_upd (List.mem_cons_of_mem _ (by simp [Bs.S, adr]))]
    exact (sm.trans f15.dat).trans f5.dat
  · intro H2 p
    obtain ⟨_, ad, si, _⟩ := p
    exact k d ad σ H2 si
/-- a def's end: all its places are new, handed out -/
theorem Sat.frM (s : Sat B hs es σ H) : FrM B.b B.S0 B.H0 hs H := ⟨s.nd, s.out, s.e.ok, s.dat, s.keep, fun x hx => (s.e.ht x hx).2.2⟩
/-- several places become data at once -/
theorem Sat.cools {hn : Hs} (s : Sat B (hn ++ hs) es σ H) : Sat B hs es σ H ∧ Same (msk (B.S (hn ++ hs)) H) (msk (B.S hs) H) ∧ (∀ x ∈ hn, x.1 ∉ B.S hs ∧ ∃ o, H x.1 = some o ∧ x.2.P o (msk (B.S hs) H)) := by
  have sub : ∀ q, q ∈ B.S hs → q ∈ B.S (hn ++ hs) := fun q hq => by
    unfold Bs.S adr at hq ⊢
    rw [List.map_append]
    rcases List.mem_append.mp hq with h | h
    · exact List.mem_append_left _ (List.mem_append_right _ h)
    · exact List.mem_append_right _ h
  have up : Same (msk (B.S (hn ++ hs)) H) (msk (B.S hs) H) := msk_sub sub
  have nd := s.nd
  have nd' : ((hn ++ hs).map Prod.fst).Nodup := nd
  rw [List.map_append, List.nodup_append] at nd'
  refine ⟨⟨⟨⟨fun q hq => s.e.ok.ob q (sub q hq), fun a ha => ⟨List.mem_append_right _ (s.bin a ha), (s.e.ok.bag a ha).2.up up⟩⟩, s.e.sl.up up, fun x hx => ?_⟩, nd'.2.1, fun p hp => s.out p ?_, s.dat.trans up, s.keep, s.bin, fun g hg => g.2.up up (s.gh g hg)⟩, up, fun x hx => ⟨fun q => ?_, ?_⟩⟩
  · obtain ⟨_, a2, o1, a3, a4⟩ := s.e.ht x (List.mem_append_right _ hx)
    exact ⟨List.mem_append_left _ (List.mem_map.mpr ⟨x, hx, rfl⟩), a2, o1, a3, x.2.up up a4⟩
  · show p ∈ (hn ++ hs).map Prod.fst
    rw [List.map_append]
    exact List.mem_append_right _ hp
  · rcases List.mem_append.mp q with q | q
    · exact nd'.2.2 x.1 (List.mem_map.mpr ⟨x, hx, rfl⟩) x.1 q rfl
    · exact s.out x.1 (List.mem_map.mpr ⟨x, List.mem_append_left _ hx, rfl⟩) q
  · obtain ⟨_, _, o, h1, h2⟩ := s.e.ht x (List.mem_append_left _ hx)
    exact ⟨o, h1, x.2.up up h2⟩
theorem Slots.reset {M : Hp} {i : Nat} {v : V} (h : Slots M σ es) (e : σ[i]? = some (some v)) (r : R.P v M) : Slots M σ (es.set i (some R)) := by
  have q := h.set (R := R) i r
  have e3 : σ.set i (some v) = σ := by
    apply List.ext_getElem?
    intro j
    by_cases hj : i = j
    · subst hj
      rw [List.getElem?_set_self (List.getElem?_eq_some_iff.mp e).1, e]
    · rw [List.getElem?_set_ne hj]
  rw [e3] at q
  exact q
/-- a list and the things in it -/
theorem n_coolL {ad : Nat → Addr} {gf : Nat → HRep} {rr : Nat → Rep} {n i : Nat} {p : Addr} (hi : es[i]? = some (some (rAt p))) (hr : ∀ j, j < n → ∀ v M, (rOf (gf j)).P v M → (rr j).P v M) (k : N B hs (es.set i (some (rL ((List.range n).map rr)))) T) : N B (nestF ad gf n ++ (p, hL ((List.range n).map fun j => rAt (ad j))) :: hs) es T := fun σ H s => by
  have e0 : nestF ad gf n ++ (p, hL ((List.range n).map fun j => rAt (ad j))) :: hs = (nestF ad gf n ++ [(p, hL ((List.range n).map fun j => rAt (ad j)))]) ++ hs := by rw [List.append_assoc]; rfl
  obtain ⟨v, e1, e2⟩ := s.e.sl.at_ i _ hi
  have e2 : v = .ref p := e2
  subst e2
  rw [e0] at s
  obtain ⟨s1, up, hx⟩ := s.cools
  obtain ⟨np, o, ho, vs, eo, al⟩ := hx (p, _) (List.mem_append_right _ List.mem_cons_self)
  subst eo
  refine k σ H ⟨⟨s1.e.ok, s1.e.sl.reset e1 ⟨p, _, rfl, (msk_out np).trans ho, vs, rfl, All2.conv (f := fun j => rAt (ad j)) al fun j hj v hv => ?_⟩, s1.e.ht⟩, s1.nd, s1.out, s1.dat, s1.keep, s1.bin, s1.gh⟩
  have hj := List.mem_range.mp hj
  have hm : (ad j, gf j) ∈ nestF ad gf n := List.mem_map.mpr ⟨j, List.mem_range.mpr hj, rfl⟩
  obtain ⟨nq, o2, ho2, hg2⟩ := hx (ad j, gf j) (List.mem_append_left _ hm)
  exact hr j hj v _ ⟨ad j, o2, hv, (msk_out nq).trans ho2, hg2⟩
/-- a field's place becomes data: the top place d, the instance next -/
theorem n_coolF {x d : Addr} {pre post : List (Str × Rep)} {f : Str} (k : N B ((x, hI C (pre ++ (f, rOf h) :: post)) :: hs) es T) : N B ((d, h) :: (x, hI C (pre ++ (f, rAt d) :: post)) :: hs) es T := fun σ H s => by
  obtain ⟨s1, up, hx⟩ := s.cools (hn := [(d, h)])
  obtain ⟨nd, o, ho, hh⟩ := hx (d, h) List.mem_cons_self
  obtain ⟨hS, nb, o2, ho2, dx, fs, eo, h1, h2⟩ := s1.e.ht (x, _) List.mem_cons_self
  subst eo
  have s2 := s1.put (k := 0) (p := x) (h' := hI C (pre ++ (f, rOf h) :: post)) (o := .ins C dx fs) rfl ⟨dx, fs, rfl, by rw [h1]; simp, by
    have aux : ∀ {pr po : List Rep} {vs : List V}, All2 (pr ++ rAt d :: po) vs (msk (B.S ((x, hI C (pre ++ (f, rAt d) :: post)) :: hs)) H) → All2 (pr ++ rOf h :: po) vs (msk (B.S ((x, hI C (pre ++ (f, rAt d) :: post)) :: hs)) H) := by
      intro pr
      induction pr with
      | nil =>
        intro po vs al
        cases vs with
        | nil => exact al.elim
        | cons v vs => exact ⟨⟨d, o, al.1, (msk_out nd).trans ho, hh⟩, al.2⟩
      | cons r pr ih =>
        intro po vs al
        cases vs with
        | nil => exact al.elim
        | cons v vs => exact ⟨al.1, ih al.2⟩
    rw [List.map_append, List.map_cons] at h2 ⊢
    exact aux h2⟩
  have e : upd H x (.ins C dx fs) = H := by
    funext q
    by_cases e : q = x
    · subst e
      rw [upd_same]
      exact ho2.symm
    · rw [upd_ne e]
  rw [e] at s2
  exact k σ H s2
/-- the same places, told again -/
theorem n_hup {h' : HRep} {p : Addr} {n : Nat} (hn : hs[n]? = some (p, h)) (up : ∀ o M, h.P o M → h'.P o M) (k : N B (hs.set n (p, h')) es T) : N B hs es T := fun σ H s => by
  obtain ⟨h1, h2, o, h3, h4⟩ := s.e.ht _ (List.mem_of_getElem? hn)
  have s2 := s.put (h' := h') (o := o) hn (up _ _ h4)
  have e : upd H p o = H := by
    funext q
    by_cases e : q = p
    · subst e
      rw [upd_same]
      exact h3.symm
    · rw [upd_ne e]
  rw [e] at s2
  exact k σ H s2
/-- the bag is opened for good: from here on it is the base's -/
theorem n_bag {a : Addr} {xs : List Int} {i r m n : Int} (hb : BagOk xs i r m n) (hN : B.b = none) (hg : B.gs = []) (k : ∀ H0 : Hp, N ⟨some a, a :: B.S0, H0, []⟩ [] es T) : N B [(a, hB xs i r m n)] es T := fun σ H s => by
  obtain ⟨_, _, o, ho, vs, eo, al⟩ := s.e.ht _ List.mem_cons_self
  subst eo
  have al' : All2 [rL (xs.map rInt), rInt i, rInt r, rInt m, rInt n] vs (msk (a :: B.S0) H) := al
  obtain ⟨v1, w1, w2, w3, w4, rfl, ⟨c, oc, ec, hc, ws, eoc, aw⟩, e1, e2, e3, e4⟩ : ∃ v1 w1 w2 w3 w4, vs = [v1, w1, w2, w3, w4] ∧ (rL (xs.map rInt)).P v1 (msk (a :: B.S0) H) ∧ w1 = V.int i ∧ w2 = V.int r ∧ w3 = V.int m ∧ w4 = V.int n := by
    have hl := al'.len
    match vs, hl, al' with
    | [v1, w1, w2, w3, w4], _, al' => exact ⟨v1, w1, w2, w3, w4, rfl, al'.1, al'.2.1, al'.2.2.1, al'.2.2.2.1, al'.2.2.2.2.1⟩
  subst eoc ec e1 e2 e3 e4
  have ew : ws = xs.map V.int := All2.consts V.int aw
  subst ew
  refine k H σ H ⟨⟨⟨s.e.ok.ob, fun a' ha => ?_⟩, s.e.sl, fun x hx => (by cases hx)⟩, List.nodup_nil, fun p hp => (by cases hp), Same.refl _, fun _ _ _ => rfl, fun a' ha => ?_, fun g hg => by cases hg⟩
  · cases ha
    exact ⟨List.mem_cons_self, c, xs, i, r, m, n, ho, hc, hb.l, hb.i0, hb.r0, hb.m0, hb.m1, hb.n0⟩
  · cases ha
    exact List.mem_cons_self
/-- a slice of a list among the places -/
theorem en_sliceH {rs : List Rep} {tl th : TO} {Pl Ph : Option Int → Prop} (ha : EV b hs es ta R) (la : LAt b hs rs R) (hl : EO b hs es tl Pl) (hh : EO b hs es th Ph) (hres : ∀ lo hi, Pl lo → Ph hi → ∀ vs M, All2 (cutR rs lo hi) vs M → h.P (.lst vs) M) :
    EN b hs es (tSl (rSlL K) ta tl th) h := fun S σ H s Q q =>
  ha S σ H s _ fun x H1 f1 r1 => hl S σ H1 (s.mono f1) _ fun lo H2 f2 p2 => hh S σ H2 ((s.mono f1).mono f2) _ fun hi H3 f3 p3 => by
    obtain ⟨a, vs, e, haa, al⟩ := la S H3 x (((s.mono f1).mono f2).mono f3).ht (R.up (f2.dat.trans f3.dat) r1)
    refine ⟨a, vs, e, sq_of haa, en_new s.ok ((f1.trans f2).trans f3) (hres lo hi p2 p3 _ _ ?_) q⟩
    unfold cutR cutV
    rw [al.len]
    exact (al.drop _).take _
/-- tuple(a list) -/
theorem ev_tupOf {rs : List Rep} (ha : EV b hs es ta (rL rs)) : EV b hs es (tCB (rTupOf K) (tCons ta tNil)) (rT rs) := ev_cb (ea_cons ha ea_nil) fun S H vs k _ al Q q => by
  obtain ⟨x, rfl, hx⟩ := all1 al
  obtain ⟨a, ws, e, haa, _, aw⟩ := rL_at hx
  exact ⟨a, ws, by rw [e], Or.inl ⟨sq_of haa, fun p hp => q _ _ (Fr.new k hp) ⟨p, ws, rfl, (msk_out (new_out k hp)).trans upd_same, aw.up (msk_new hp)⟩⟩⟩
theorem ev_lenDK {ks : List Key} {f : Key → Rep} (ha : EV b hs es ta R) (hd : ∀ S, DKAt b S hs ks f R) : EV b hs es (tCB rLenDK (tCons ta tNil)) (rInt ks.length) := ev_cb (ea_cons ha ea_nil) fun S H vs k ho al Q q => by
  obtain ⟨x, rfl, hx⟩ := all1 al
  obtain ⟨a, kvs, e, ha, hks, _⟩ := hd S H x ho hx
  exact ⟨a, kvs, by rw [e], ha, q _ H (Fr.refl k) (by rw [← hks, List.length_map]; rfl)⟩
/-- return of a new dict of lists -/
theorem w_retNN {ms : List Str} {ad : Key → Addr} {gm : Str → HRep} {d : Addr} {ks : List Key} {f : Key → Rep} {i : Nat} (hi : es[i]? = some (some (rAt d))) (hks : ∀ k ∈ ks, ∃ n ∈ ms, k = .inr n) (hf : ∀ n ∈ ms, ∀ v M, (rOf (gm n)).P v M → (f (.inr n)).P v M)
    (k : ∀ p o H', FrN B.b B.S0 B.H0 p H' → H' p = some o → (hDK ks f).P o (msk (p :: B.S0) H') → D.rt (.ref p) H') : N B (nest ms ad gm ++ [(d, hDK ks fun k => rAt (ad k))]) es (tRet (tVar i) D) := fun σ H s => by
  obtain ⟨v, e1, e2⟩ := s.e.sl.at_ i _ hi
  have e2 : v = .ref d := e2
  subst e2
  obtain ⟨s1, up, hx⟩ := s.cools
  obtain ⟨_, _, o, ho, kvs, eo, h1, h2⟩ := s1.e.ht (d, _) List.mem_cons_self
  subst eo
  have em : B.S [(d, hDK ks fun k => rAt (ad k))] = d :: B.S0 := rfl
  refine ⟨_, e1, k d _ H ⟨s1.out d List.mem_cons_self, s1.e.ok, s1.dat, s1.keep⟩ ho ⟨kvs, rfl, h1, fun k' v' m => ?_⟩⟩
  have e3 : v' = .ref (ad k') := h2 k' v' m
  obtain ⟨n, hn, rfl⟩ := hks k' (by rw [← h1]; exact List.mem_map.mpr ⟨_, m, rfl⟩)
  obtain ⟨nq, o2, ho2, hg2⟩ := hx (ad (.inr n), gm n) (List.mem_map.mpr ⟨n, hn, rfl⟩)
  exact hf n hn _ _ ⟨ad (.inr n), o2, e3, (msk_out nq).trans ho2, hg2⟩
theorem mut_dK {ks : List Key} {f : Key → Rep} : ∀ o M, (hDK ks f).P o M → Mut (some o) := fun o M q => by
  obtain ⟨_, e, _⟩ := q
  subst e
  exact True.intro
theorem mut_dT {ks : List (List Key)} {f : List Key → Rep} : ∀ o M, (hDT ks f).P o M → Mut (some o) := fun o M q => by
  obtain ⟨_, e, _⟩ := q
  subst e
  exact True.intro
/-- o.f, o.g = e, e one of several pairs -/
theorem w_setF2X {α : Type} {P : α → Prop} {R1 R2 : α → Rep} {p : Addr} {n i : Nat} {f g2 : Str} {rf : List (Str × Rep)} (hn : hs[n]? = some (p, hI C rf)) (hv : EV B.b hs es te (rEx P fun z => rT [R1 z, R2 z])) (hi : es[i]? = some (some (rAt p))) (cl : Cls K C) (na : NoAttr K C f) (na2 : NoAttr K C g2) (hf : f ∉ rf.map Prod.fst) (hf2 : ∀ R : Rep, g2 ∉ (rf ++ [(f, R)]).map Prod.fst) (hl : rf.length < 900) (k : ∀ z, P z → N B (hs.set n (p, hI C (rf ++ [(f, R1 z)] ++ [(g2, R2 z)]))) es D.nx) :
    N B hs es (tAsg te (gTup K 2 (gCons (gFld K (tVar i) f) (gCons (gFld K (tVar i) g2) gNil))) D) := fun σ H s =>
  hv _ σ H s.e _ fun v H1 f1 ⟨z, pz, r1⟩ => by
    have s1 := s.mono f1
    obtain ⟨a, vs, e, ha, _, al⟩ := rT_at r1
    obtain ⟨x, y, rfl, hx, hy⟩ := all_2 al
    obtain ⟨w, e1, e2⟩ := s1.e.sl.at_ i _ hi
    have e2 : w = .ref p := e2
    subst e2
    obtain ⟨_, _, o, ho, dx, fs, eo, h1, h2⟩ := s1.e.ht _ (List.mem_of_getElem? hn)
    subst eo
    have hlen : fs.length = rf.length := by have := congrArg List.length h1; rwa [List.length_map, List.length_map] at this
    have p1 : putF f x fs = fs ++ [(f, x)] := putF_new (by rw [h1]; exact hf)
    have s2 := s1.put (o := .ins C dx (fs ++ [(f, x)])) (h' := hI C (rf ++ [(f, R1 z)])) hn ⟨dx, _, rfl, by rw [List.map_append, List.map_append, h1]; rfl, by rw [List.map_append, List.map_append]; exact All2.snoc hx h2⟩
    have hl2 := (List.getElem?_eq_some_iff.mp hn).1
    have hn2 : (hs.set n (p, hI C (rf ++ [(f, R1 z)])))[n]? = some (p, hI C (rf ++ [(f, R1 z)])) := List.getElem?_set_self hl2
    have em : msk (B.S (hs.set n (p, hI C (rf ++ [(f, R1 z)])))) (upd H1 p (.ins C dx (fs ++ [(f, x)]))) = msk (B.S hs) H1 := by rw [S_set hn, msk_upd (s1.e.ht _ (List.mem_of_getElem? hn)).1]
    have h1' : (fs ++ [(f, x)]).map Prod.fst = (rf ++ [(f, R1 z)]).map Prod.fst := by rw [List.map_append, List.map_append, h1]; rfl
    have p2 : putF g2 y (fs ++ [(f, x)]) = fs ++ [(f, x)] ++ [(g2, y)] := putF_new (by rw [h1']; exact hf2 _)
    refine ⟨a, [x, y], e, st_of ha, rfl, x, [y], rfl, .ref p, e1, p, C, dx, fs, rfl, ho, cl, na, by omega, y, [], rfl, .ref p, e1, p, C, dx, fs ++ [(f, x)], rfl, by rw [p1]; exact upd_same, cl, na2, by rw [List.length_append]; show fs.length + 1 < 1000; omega, rfl, ?_⟩
    rw [p1, p2]
    have s3 := s2.put (o := .ins C dx (fs ++ [(f, x)] ++ [(g2, y)])) (h' := hI C (rf ++ [(f, R1 z)] ++ [(g2, R2 z)])) hn2 ⟨dx, _, rfl, by rw [List.map_append, List.map_append (l₁ := rf ++ [(f, R1 z)]), h1']; rfl, by rw [List.map_append, List.map_append (l₁ := fs ++ [(f, x)]), em]; exact All2.snoc hy (by rw [List.map_append, List.map_append]; exact All2.snoc hx h2)⟩
    rw [List.set_set] at s3
    exact k z pz _ _ s3
end
end L2.K9A
end
section
set_option Elab.async false
set_option linter.all false
set_option maxRecDepth 100000
set_option maxHeartbeats 4000000
namespace K9W
open PySem PySem.Spec PyProof.Rows L2 L2.K9R L2.K9A K9 K9M
open RZ (pi_zipA)
open C8 (Cal Met pe_c pe_mt pe_mt0 InsC call_isC pe_gc)
section
variable {P : Program} {w : World} {K : PySem.W.Frag} {hp : Heap} {mg : Str → Option Value} {base : Heap}

/-! ### the parcels of the rows -/
abbrev rParc (rows : Rows) (k : Key) : Rep := match k with
  | .inr n => rCells (cellsOf rows n)
  | .inl _ => rNon
abbrev rOwn (rows : Rows) (ns : List Str) : Rep := rDK (ns.map Sum.inr) (rParc rows)
/-- the cells before (i, j) -/
def pre (w i j : Nat) : List Cell := allC i w ++ (List.range j).map fun (j : Nat) => ((i : Int), (j : Int))
def preN (rows : Rows) (i j : Nat) (n : Str) : List Cell := (pre (wid rows) i j).filter fun c => decide (atR rows c = n)
theorem pre_row {w i : Nat} : pre w i w = pre w (i + 1) 0 := by
  unfold pre allC
  rw [List.range_succ, List.map_append, List.flatten_append, List.range_zero, List.map_nil, List.append_nil]
  congr 1
  simp [rowC]
theorem preN_at {rows : Rows} {i j : Nat} {n : Str} (h : atR rows ((i : Int), (j : Int)) = n) : preN rows i (j + 1) n = preN rows i j n ++ [((i : Int), (j : Int))] := by
  unfold preN pre
  rw [List.range_succ, List.map_append, ← List.append_assoc, List.filter_append]
  simp [h]
theorem preN_no {rows : Rows} {i j : Nat} {n : Str} (h : atR rows ((i : Int), (j : Int)) ≠ n) : preN rows i (j + 1) n = preN rows i j n := by
  unfold preN pre
  rw [List.range_succ, List.map_append, ← List.append_assoc, List.filter_append]
  simp [h]
theorem preN_all {rows : Rows} {n : Str} : preN rows rows.length 0 n = cellsOf rows n := by
  unfold preN pre cellsOf
  rw [List.range_zero, List.map_nil, List.append_nil]
theorem preN_len {rows : Rows} (s : Shape rows) {i j : Nat} (hi : i < rows.length) (hj : j < wid rows) {n : Str} : (preN rows i j n).length ≤ 100000 := by
  unfold preN pre allC
  refine Nat.le_trans (List.length_filter_le _ _) ?_
  have h12 := s.h12
  have w12 := s.w12
  rw [List.length_append, List.length_map, List.length_range, List.length_flatten, List.map_map]
  have : ∀ m : Nat, ((List.range m).map (List.length ∘ rowC (wid rows))).sum = m * wid rows := fun m => by
    induction m with
    | zero => simp
    | succ m ih => rw [List.range_succ, List.map_append, List.sum_append, ih, Nat.succ_mul]; simp [rowC]
  rw [this]
  have := Nat.mul_le_mul (show i ≤ 12 by omega) w12
  omega
abbrev hOwn (rows : Rows) (ns : List Str) : HRep := hDK (ns.map Sum.inr) (rParc rows)
def CT_parcels_of : Option Addr → List Rep → HRep → Prop := fun _ rs h => ∃ rows, Shape rows ∧ rs = [rRows rows] ∧ h = hEx (Names rows) (hOwn rows)
theorem len_parcels_of : ∀ b rs h, CT_parcels_of b rs h → rs.length = 1 := fun _ _ _ ⟨_, _, e, _⟩ => by rw [e]; rfl
theorem sc_parcels_of : FnScope ["rows", "names", "found", "down", "row", "right", "name"] ["rows"] K9H.d_parcels_of.scope := ⟨rfl, rfl, rfl, by decide +kernel, rfl, by decide +kernel, by decide +kernel⟩
theorem c_parcels_of (X : K.In hp) (G : hp.Ns mainGlobals mg) (c : K9H.Sy K) : Cal P w K mg base 1 "parcels_of" (SpN CT_parcels_of) [] := by
  obtain ⟨fd, F⟩ := c.def_ 13 (d := K9H.d_parcels_of) rfl
  have F : FunD K K9H.d_parcels_of.name K9H.d_parcels_of.qual K9H.d_parcels_of.params K9H.d_parcels_of.body K9H.d_parcels_of.scope [] [] _ fd := F
  have T := txt X G c
  have sc := sc_parcels_of
  refine calD F (He.glo_ok X G (c.fact 13 (f := .glo "parcels_of") rfl)) (bindsD F fun _ _ _ _ _ _ us hl => match us, hl with | [_], _ => rfl) (fnN (ps := ["rows"]) F sc CT_parcels_of ?_ ?_)
  case refine_1 => exact len_parcels_of
  refine fun cdv A outer s H E hr => ⟨_, (pss_cons (ps_set (i := 1) sc.nd rfl (by first | exact Or.inl rfl | exact Or.inr rfl) (pe_callB (id := "sorted") (cr_sortedSetS rfl) (by rfl) T.z_sorted (by decide +kernel) (pa_cons (pe_lc2S (own := [("row", 4), ("name", 6)]) (vs1 := [6]) rfl sc.nd (pi_listK (K := K) rfl (pv 0)) (blkOk_by (by kernel_rfl)) (by decide) (fun _ _ _ _ _ => (pg_name (i := 4) sc.nd rfl (by first | exact Or.inl rfl | exact Or.inr rfl))) (fun _ _ _ _ _ => pts_nil) (fun _ _ _ _ _ => (pi_listK (K := K) rfl (pv 4))) (fun _ _ _ _ _ => (pg_name (i := 6) sc.nd rfl (by first | exact Or.inl rfl | exact Or.inr rfl))) (fun _ _ _ _ _ => pts_nil) (fun _ _ _ _ _ => (pv 6))) pa_nil)))
  (pss_cons (ps_setDc (i := 2) (own := [("name", 6)]) rfl sc.nd rfl rfl (swDc_true rfl rfl rfl (by decide +kernel)) (pi_listK (K := K) rfl (pv 1)) (blkOk_by (by kernel_rfl)) (fun _ _ _ _ _ => (pg_name (i := 6) sc.nd rfl (by first | exact Or.inl rfl | exact Or.inr rfl))) (fun _ _ _ _ _ => pts_nil) (fun _ _ _ _ _ => (pv 6)) (fun _ _ _ _ _ => (pe_lst pa_nil)))
  (pss_cons (ps_for PassesOwn.never rfl (pi_enum (by rfl) T.z_enumerate (pa_cons (pv 0) pa_nil)) (pg_tupK (K := K) (n := 2) rfl rfl (pgs_cons (pg_name (i := 3) sc.nd rfl (by first | exact Or.inl rfl | exact Or.inr rfl)) (pgs_cons (pg_name (i := 4) sc.nd rfl (by first | exact Or.inl rfl | exact Or.inr rfl)) pgs_nil)))
  (pss_one (ps_for PassesOwn.never rfl (pi_enum (by rfl) T.z_enumerate (pa_cons (pv 4) pa_nil)) (pg_tupK (K := K) (n := 2) rfl rfl (pgs_cons (pg_name (i := 5) sc.nd rfl (by first | exact Or.inl rfl | exact Or.inr rfl)) (pgs_cons (pg_name (i := 6) sc.nd rfl (by first | exact Or.inl rfl | exact Or.inr rfl)) pgs_nil)))
  (pss_one (ps_expr (pe_bm PySem.F.plainAttrs_list PySem.F.slot_list_append PySem.F.type_list_append mt_append (pe_dget (hu_of hr) (pv 2) (pv 6) (fun _ _ => rfl)) (pa_cons (pe_tup (pa_cons (pv 3) (pa_cons (pv 5) pa_nil))) pa_nil)))))))
  (pss_one (ps_ret (pv 2)))))), fun B Q rs R hC hgs k => ?_⟩
  obtain ⟨rows, s, rfl, rfl⟩ := hC
  have hf := (shape_flat s)
  have h12 := s.h12
  have w12 := s.w12
  refine q_asgX (P := Names rows) (f := rStrs) (i := 1) (EV.up (R' := rEx (Names rows) rStrs) (EN.evX (en_sortedSet (L := addAll rows.flatten) (ev_lc2S (by decide) (show 4 < 7 by decide) (show 6 < 7 by decide) (ev_var rfl) (by omega)))) ?_) ?_
  · rintro v M ⟨ys, ⟨hp, hs⟩, hv⟩
    exact ⟨ys, names_of hp hs, hv⟩
  intro ns hns
  have nsl : ns.length ≤ 144 := Nat.le_trans (nd_len hns.nd fun z hz => List.mem_flatten.mpr ((hns.mem z).mp hz)) hf
  refine q_dcN (ns := ns) (js := [6]) (f := fun n es => es.set 6 (some (rStr n))) (src_list (ev_var rfl)) (fun _ _ => gt_name) (fun _ h => h) hns.nd (by omega) (fun n hn => ev_var rfl) (fun n hn => en_lst ea_nil (by decide)) ?_
  intro d ad
  have rnd : ns.reverse.Nodup := (List.reverse_perm ns).nodup_iff.mpr hns.nd
  have hN : ∀ (i j : Nat) (n : Str), rows[i]?.bind (fun r => r[j]?) = some n → n ∈ ns ∧ atR rows ((i : Int), (j : Int)) = n := fun i j n h => by
    cases hr : rows[i]? with
    | none => rw [hr] at h; cases h
    | some r =>
      rw [hr] at h
      refine ⟨(hns.mem n).mpr ⟨r, List.mem_of_getElem? hr, List.mem_of_getElem? h⟩, ?_⟩
      have h : r[j]? = some n := h
      simp [atR, at?, hr, h]
  refine q_for (src_enum (Gf := rStrs) (xs := rows) (ea_cons (ev_var rfl) ea_nil)) (fun (i : Nat) (x : Nat) => x = i) (fun x => nest ns.reverse ad (fun n => hL ((preN rows x 0 n).map rCell)) ++ [(d, hDK (ns.map Sum.inr) fun k => rAt (ad k))]) (fun _ => [some (rRows rows), none, some (rAt d), none, none, none, none]) 0 rfl rfl (by exact ⟨rfl, rfl, True.intro⟩) (fun _ _ => gt_tup2 gt_name gt_name) ?_ ?_
  · rintro gs i ⟨r, i'⟩ x hy rfl
    obtain ⟨hr, e⟩ := zip_at hy
    subst e
    have hr : rows[i']? = some r := hr
    have hx : i' < rows.length := (List.getElem?_eq_some_iff.mp hr).1
    have hw : r.length = wid rows := s.rect r (List.mem_of_getElem? hr)
    refine w_for (src_enum (Gf := rStr) (xs := r) (ea_cons (ev_var rfl) ea_nil)) (fun (j : Nat) (y : Nat) => y = j) (fun y => nest ns.reverse ad (fun n => hL ((preN rows i' y n).map rCell)) ++ [(d, hDK (ns.map Sum.inr) fun k => rAt (ad k))]) (fun _ => [some (rRows rows), none, some (rAt d), some (rInt (i' : Nat)), none, none, none]) 0 rfl rfl (by exact ⟨rfl, rfl, rfl, True.intro⟩) (fun _ _ => gt_tup2 gt_name gt_name) ?_ ?_
    · rintro gs j ⟨n, j'⟩ y hy rfl
      obtain ⟨hj, e⟩ := zip_at hy
      subst e
      have hj : r[j']? = some n := hj
      have hjl : j' < wid rows := by rw [← hw]; exact (List.getElem?_eq_some_iff.mp hj).1
      obtain ⟨hn, hat⟩ := hN i' j' n (by rw [hr]; exact hj)
      obtain ⟨q, hq, hq2⟩ := nest_at (ad := ad) (g := fun n => hL ((preN rows i' j' n).map rCell)) (hs := [(d, hDK (ns.map Sum.inr) fun k => rAt (ad k))]) (List.mem_reverse.mpr hn)
      refine w_app hq2 (ev_dkget (ks := ns.map Sum.inr) (f := fun k => rAt (ad k)) (k := .inr n) (ev_var rfl) (ev_var rfl) (fun S => dkat_hot (p := d) (List.mem_append_right _ List.mem_cons_self)) (List.mem_map.mpr ⟨n, hn, rfl⟩)) (ev_tup (ea_cons (ev_var rfl) (ea_cons (ev_var rfl) ea_nil)) (show 2 ≤ 100000 by decide)) (by rw [List.length_map]; exact preN_len s hx hjl) ?_
      rw [nest_set rnd hq]
      dsimp only
      refine n_inv (j' + 1) rfl ?_ (by exact ⟨rfl, rfl, rfl, True.intro⟩)
      congr 1
      refine nest_congr fun m hm => ⟨rfl, ?_⟩
      by_cases e : m = n
      · subst e
        rw [if_pos rfl, preN_at hat, List.map_append]
        rfl
      · rw [if_neg e, preN_no fun q => e (q.symm.trans hat)]
    · rintro y rfl
      dsimp only
      refine n_inv (i' + 1) rfl ?_ (by exact ⟨rfl, rfl, True.intro⟩)
      congr 1
      refine nest_congr fun m hm => ⟨rfl, ?_⟩
      rw [List.length_zipIdx, hw]
      unfold preN
      rw [pre_row]
  · rintro x rfl
    refine w_retNN (ms := ns.reverse) (f := rParc rows) rfl (fun k hk => ?_) (fun n hn v M q => ?_) fun p o H' f e r => k p o H' f e ⟨ns, hns, r⟩
    · obtain ⟨n, hn, rfl⟩ := List.mem_map.mp hk
      exact ⟨n, List.mem_reverse.mpr hn, rfl⟩
    · rw [List.length_zipIdx, preN_all] at q
      exact q

end
end K9W
end
section
set_option Elab.async false
set_option linter.all false
set_option maxRecDepth 100000
set_option maxHeartbeats 4000000
namespace K9W
open PySem PySem.Spec PyProof.Rows L2 L2.K9R L2.K9A K9 K9M
open RZ (pi_zipA)
open C8 (Cal Met pe_c pe_mt pe_mt0 InsC call_isC pe_gc)
section
variable {P : Program} {w : World} {K : PySem.W.Frag} {hp : Heap} {mg : Str → Option Value} {base : Heap}

/-! ### the borders -/
def gin (rows : Rows) (p : Cell) : Bool := decide (p.1 < (rows.length : Nat)) && decide (p.2 < (wid rows : Nat))
def pairsAt (rows : Rows) (c : Cell) (ps : List Cell) : List (Str × Str) := (ps.map fun p => (atR rows c, atR rows p)).filter fun q => decide (q.2 ≠ q.1)
def pairsOf (rows : Rows) (c : Cell) : List (Str × Str) := pairsAt rows c ((bes c).filter (gin rows))
def allPairs (rows : Rows) : List (Str × Str) := (allC rows.length (wid rows)).flatMap (pairsOf rows)
def cntK (L : List (Str × Str)) (k : List Key) : Nat := (L.filter fun q => decide (([.inr q.1, .inr q.2] : List Key) = k)).length
theorem cntK_at {L : List (Str × Str)} {a b : Str} : cntK (L ++ [(a, b)]) [.inr a, .inr b] = cntK L [.inr a, .inr b] + 1 := by
  unfold cntK
  rw [List.filter_append]
  simp
theorem cntK_no {L : List (Str × Str)} {a b : Str} {k : List Key} (h : k ≠ [.inr a, .inr b]) : cntK (L ++ [(a, b)]) k = cntK L k := by
  unfold cntK
  rw [List.filter_append]
  have : ([.inr a, .inr b] : List Key) ≠ k := fun e => h e.symm
  simp [this]
abbrev BX := List (Str × Str) × List (List Key) × List Key × (Key → Int)
structure BSt (rows : Rows) (cs : List Cell) (q : List (Str × Str)) (x : BX) : Prop where
  l : x.1 = cs.flatMap (pairsOf rows) ++ q
  z : ∀ k, k ∉ x.2.1 → cntK x.1 k = 0
  n : x.2.1.length ≤ x.1.length
abbrev bHs (pd pr : Addr) (x : BX) : Hs := [(pr, hDK x.2.2.1 fun k => rInt (x.2.2.2 k)), (pd, hDT x.2.1 fun k => rInt (cntK x.1 k))]
theorem pairs_len {rows : Rows} : ∀ cs : List Cell, (cs.flatMap (pairsOf rows)).length ≤ 4 * cs.length
  | [] => by simp
  | c :: cs => by
    rw [List.flatMap_cons, List.length_append, List.length_cons]
    have h1 : (pairsOf rows c).length ≤ 4 := by
      unfold pairsOf pairsAt
      refine Nat.le_trans (List.length_filter_le _ _) ?_
      rw [List.length_map]
      refine Nat.le_trans (List.length_filter_le _ _) ?_
      exact Nat.le_trans (List.length_filter_le _ _) (by show 4 ≤ 4; decide)
    have := pairs_len (rows := rows) cs
    omega
theorem pre_len {w i j : Nat} (hi : i < 12) (hj : j ≤ 12) (hw : w ≤ 12) : (pre w i j).length ≤ 156 := by
  unfold pre allC
  rw [List.length_append, List.length_map, List.length_range, List.length_flatten, List.map_map]
  have : ∀ m : Nat, ((List.range m).map (List.length ∘ rowC w)).sum = m * w := fun m => by
    induction m with
    | zero => simp
    | succ m ih => rw [List.range_succ, List.map_append, List.sum_append, ih, Nat.succ_mul]; simp [rowC]
  rw [this]
  have := Nat.mul_le_mul (show i ≤ 12 by omega) hw
  omega
theorem pre_next {w i j : Nat} : pre w i (j + 1) = pre w i j ++ [((i : Int), (j : Int))] := by
  unfold pre
  rw [List.range_succ, List.map_append, ← List.append_assoc]
  rfl
theorem bes_ok {c p : Cell} (h : p ∈ bes c) : okC p = true := (List.mem_filter.mp h).2
theorem gin_all {rows : Rows} (s : Shape rows) {p : Cell} (ho : okC p = true) (h : gin rows p = true) : p ∈ allC rows.length (wid rows) := by
  unfold gin at h
  rw [Bool.and_eq_true, decide_eq_true_eq, decide_eq_true_eq] at h
  have h0 : 0 ≤ p.1 ∧ 0 ≤ p.2 := by
    unfold okC at ho
    simp at ho
    omega
  refine mem_allC.mpr ⟨p.1.toNat, p.2.toNat, ?_, by omega, by omega⟩
  rw [Int.toNat_of_nonneg h0.1, Int.toNat_of_nonneg h0.2]
abbrev rBor (rows : Rows) (q : List (List Key) × List Key × (Key → Int)) : Rep := rT [rDT q.1 fun k => rInt (cntK (allPairs rows) k), rDK q.2.1 fun k => rInt (q.2.2 k)]
def CT_borders_of : Option Addr → List Rep → Rep → Prop := fun _ rs R => ∃ rows, Shape rows ∧ rs = [rRows rows] ∧ R = rEx (fun q : List (List Key) × List Key × (Key → Int) => ∀ k, k ∉ q.1 → cntK (allPairs rows) k = 0) (rBor rows)
theorem len_borders_of : ∀ b rs R, CT_borders_of b rs R → rs.length = 1 := fun _ _ _ ⟨_, _, e, _⟩ => by rw [e]; rfl
theorem sc_borders_of : FnScope ["rows", "borders", "rims", "down", "row", "right", "name", "places", "place", "other", "cell"] ["rows"] K9H.d_borders_of.scope := ⟨rfl, rfl, rfl, by decide +kernel, rfl, by decide +kernel, by decide +kernel⟩
theorem c_borders_of (X : K.In hp) (G : hp.Ns mainGlobals mg) (c : K9H.Sy K) : Cal P w K mg base 5 "borders_of" (SpD CT_borders_of) [] := by
  obtain ⟨fd, F⟩ := c.def_ 17 (d := K9H.d_borders_of) rfl
  have F : FunD K K9H.d_borders_of.name K9H.d_borders_of.qual K9H.d_borders_of.params K9H.d_borders_of.body K9H.d_borders_of.scope [] [] _ fd := F
  have T := txt X G c
  have C_beside := c_beside (P := P) (w := w) (base := base) X G c
  have sc := sc_borders_of
  refine calD F (He.glo_ok X G (c.fact 17 (f := .glo "borders_of") rfl)) (bindsD F fun _ _ _ _ _ _ us hl => match us, hl with | [_], _ => rfl) (fnD (ps := ["rows"]) F sc CT_borders_of ?_ ?_)
  case refine_1 => exact len_borders_of
  refine fun cdv A outer s H E hr => ⟨_, (pss_cons (ps_par (i := 1) (j := 2) rfl sc.nd rfl rfl (by decide) rfl rfl (pa_cons pe_dnewT (pa_cons pe_dnewK pa_nil)) (by rfl))
  (pss_cons (ps_for PassesOwn.never rfl (pi_enum (by rfl) T.z_enumerate (pa_cons (pv 0) pa_nil)) (pg_tupK (K := K) (n := 2) rfl rfl (pgs_cons (pg_name (i := 3) sc.nd rfl (by first | exact Or.inl rfl | exact Or.inr rfl)) (pgs_cons (pg_name (i := 4) sc.nd rfl (by first | exact Or.inl rfl | exact Or.inr rfl)) pgs_nil)))
  (pss_one (ps_for PassesOwn.never rfl (pi_enum (by rfl) T.z_enumerate (pa_cons (pv 4) pa_nil)) (pg_tupK (K := K) (n := 2) rfl rfl (pgs_cons (pg_name (i := 5) sc.nd rfl (by first | exact Or.inl rfl | exact Or.inr rfl)) (pgs_cons (pg_name (i := 6) sc.nd rfl (by first | exact Or.inl rfl | exact Or.inr rfl)) pgs_nil)))
  (pss_cons (ps_setLc (i := 7) (own := [("cell", 10)]) rfl sc.nd rfl rfl (sw_true rfl rfl rfl (by decide +kernel)) (pi_listK (K := K) rfl (pe_c C_beside hr (by decide) (by rfl) (pa_cons (pe_tup (pa_cons (pv 3) (pa_cons (pv 5) pa_nil))) pa_nil))) (blkOk_by (by kernel_rfl)) (fun _ _ _ _ _ => (pg_name (i := 10) sc.nd rfl (by first | exact Or.inl rfl | exact Or.inr rfl))) (fun _ _ _ _ _ => (pts_one (PW.pt (pw_and (pt_cmpR op_lt (pe_ix (ix_tupK (K := K) rfl) (pv 10) pe_int (fun _ _ => rfl)) (pe_callB (id := "len") (call_lenK (K := K) rfl) (by rfl) T.z_len (by decide +kernel) (pa_cons (pv 0) pa_nil)) (nomark _)) (pw_and1 (pt_cmpR op_lt (pe_ix (ix_tupK (K := K) rfl) (pv 10) pe_int (fun _ _ => rfl)) (pe_callB (id := "len") (call_lenK (K := K) rfl) (by rfl) T.z_len (by decide +kernel) (pa_cons (pv 4) pa_nil)) (nomark _))))))) (fun _ _ _ _ _ => (pv 10)))
  (pss_cons (ps_dput (hu_of hr) (pv 2) (pv 6) (pe_op op_sub (pe_op op_add (pe_dget2 (hu_of hr) (pv 2) (pv 6) pe_int ⟨rfl, rfl, rfl, rfl⟩) pe_int) (pe_callB (id := "len") (call_lenK (K := K) rfl) (by rfl) T.z_len (by decide +kernel) (pa_cons (pv 7) pa_nil))) rfl)
  (pss_one (ps_for PassesOwn.never rfl (pi_listK (K := K) rfl (pv 7)) (pg_name (i := 8) sc.nd rfl (by first | exact Or.inl rfl | exact Or.inr rfl))
  (pss_cons (ps_set (i := 9) sc.nd rfl (by first | exact Or.inl rfl | exact Or.inr rfl) (pe_ix (ix_listK (K := K) rfl) (pe_ix (ix_listK (K := K) rfl) (pv 0) (pe_ix (ix_tupK (K := K) rfl) (pv 8) pe_int (fun _ _ => rfl)) (fun _ _ => rfl)) (pe_ix (ix_tupK (K := K) rfl) (pv 8) pe_int (fun _ _ => rfl)) (fun _ _ => rfl)))
  (pss_one (ps_if (pt_cmpR op_ne (pv 9) (pv 6) (nomark _))
  (pss_one (ps_dput (hu_of hr) (pv 1) (pe_tup (pa_cons (pv 6) (pa_cons (pv 9) pa_nil))) (pe_op op_add (pe_dget2 (hu_of hr) (pv 1) (pe_tup (pa_cons (pv 6) (pa_cons (pv 9) pa_nil))) pe_int ⟨rfl, rfl, rfl, rfl⟩) pe_int) rfl))
  pss_nil))))))))))
  (pss_one (ps_ret (pe_tup (pa_cons (pv 1) (pa_cons (pv 2) pa_nil))))))), fun B Q rs R hC hgs k => ?_⟩
  obtain ⟨rows, s, rfl, rfl⟩ := hC
  have h12 := s.h12
  have w12 := s.w12
  refine q_par2 (h1 := hDT [] fun k => rInt (cntK [] k)) (h2 := hDK [] fun k => rInt 0) en_dT' (fun p => en_dK') ?_
  intro pd pr
  refine q_for (src_enum (Gf := rStrs) (xs := rows) (ea_cons (ev_var rfl) ea_nil)) (fun (i : Nat) (x : Nat × BX) => x.1 = i ∧ BSt rows (pre (wid rows) i 0) [] x.2 ∧ x.2.2.2.1.length ≤ 13 * i) (fun x => bHs pd pr x.2) (fun _ => [some (rRows rows), some (rAt pd), some (rAt pr), none, none, none, none, none, none, none, none]) (0, [], [], [], fun _ => 0) ⟨rfl, ⟨rfl, fun _ _ => rfl, Nat.le_refl _⟩, Nat.zero_le _⟩ rfl (by exact ⟨rfl, rfl, rfl, True.intro⟩) (fun _ _ => gt_tup2 gt_name gt_name) ?_ ?_
  · rintro gs i ⟨r, i'⟩ ⟨x0, x⟩ hy ⟨hx0, hx, hx2⟩
    obtain ⟨hr, e⟩ := zip_at hy
    subst e
    have hr : rows[i']? = some r := hr
    have hi : i' < rows.length := (List.getElem?_eq_some_iff.mp hr).1
    have hw : r.length = wid rows := s.rect r (List.mem_of_getElem? hr)
    refine w_for (src_enum (Gf := rStr) (xs := r) (ea_cons (ev_var rfl) ea_nil)) (fun (j : Nat) (x : Nat × BX) => x.1 = j ∧ BSt rows (pre (wid rows) i' j) [] x.2 ∧ x.2.2.2.1.length ≤ 13 * i' + j) (fun x => bHs pd pr x.2) (fun _ => [some (rRows rows), some (rAt pd), some (rAt pr), some (rInt (i' : Nat)), some (rStrs r), none, none, none, none, none, none]) (0, x) ⟨rfl, hx, hx2⟩ rfl (by exact ⟨rfl, rfl, rfl, rfl, rfl, True.intro⟩) (fun _ _ => gt_tup2 gt_name gt_name) ?_ ?_
    · rintro gs j ⟨n, j'⟩ ⟨y0, L, ks, ks2, ρ⟩ hy ⟨hy0, hb, hb2⟩
      obtain ⟨hj, e⟩ := zip_at hy
      subst e
      have hj : r[j']? = some n := hj
      have hjl : j' < wid rows := by rw [← hw]; exact (List.getElem?_eq_some_iff.mp hj).1
      have hat : atR rows ((i' : Int), (j' : Int)) = n := by simp [atR, at?, hr, hj]
      have hcs := pre_len (w := wid rows) (i := i') (j := j') (by omega) (by omega) w12
      have hb : BSt rows (pre (wid rows) i' j') [] (L, ks, ks2, ρ) := hb
      have hbn : ks.length ≤ L.length := hb.n
      have hb2 : ks2.length ≤ 13 * i' + j' := hb2
      have hbl : L.length ≤ 624 := by
        have e1 : L = _ := hb.l
        rw [e1, List.append_nil]
        have := pairs_len (rows := rows) (pre (wid rows) i' j')
        omega
      refine q_asg (R := rCells ((bes ((i' : Int), (j' : Int))).filter (gin rows))) (en_lc (bes ((i' : Int), (j' : Int))) (gin rows) rCell (src_list (ev_call (ea_cons (ev_tup (ea_cons (ev_var rfl) (ea_cons (ev_var rfl) ea_nil)) (show 2 ≤ 100000 by decide)) ea_nil) ⟨((i' : Int), (j' : Int)), rfl, rfl⟩)) (fun _ _ => gt_name) (fun _ h => h) (Nat.le_trans (List.length_filter_le _ _) (by show 4 ≤ _; decide)) (fun p _ => et_to (et_and (et_test (ev_opV (ev_opV (ev_var rfl) ev_c (rv_ixT (by decide) rfl)) (ev_nrows (ev_var rfl)) rv_I0)) fun _ => (et_test (ev_opV (ev_opV (ev_var rfl) ev_c (rv_ixT (by decide) rfl)) (ev_lenM (ev_var rfl) lat_data) rv_I0))) (by unfold gin; rw [hw])) (fun p _ _ => ev_var rfl)).ev ?_
      generalize hpl : (bes ((i' : Int), (j' : Int))).filter (gin rows) = places
      have hpa : ∀ p ∈ places, p ∈ allC rows.length (wid rows) := fun p hp => by
        rw [← hpl] at hp
        obtain ⟨h1, h2⟩ := List.mem_filter.mp hp
        exact gin_all s (bes_ok h1) h2
      refine q_dputK (n := 0) (p := pr) (key := .inr n) (f' := fun k => rInt (if k = .inr n then (if (.inr n : Key) ∈ ks2 then ρ (.inr n) else 0) + 4 - (places.length : Nat) else ρ k)) rfl (ev_opV (ev_opV (ev_dkget2 (k := .inr n) (R := rInt (if (.inr n : Key) ∈ ks2 then ρ (.inr n) else 0)) (ev_var rfl) (ev_var rfl) ev_c (fun S => dkat_hot (p := pr) List.mem_cons_self) (fun hm v M h => by rw [if_pos hm]; exact h) (fun hm v M h => by rw [if_neg hm]; exact h)) ev_c rv_I0) (ev_lenM (ev_var rfl) lat_data) rv_I0) (ev_var rfl) (ev_var rfl) (by omega) (fun v M h => by rw [if_pos rfl]; exact h) (fun k' _ hne v M h => by rw [if_neg hne]; exact h) ?_
      have hks2 : (if (.inr n : Key) ∈ ks2 then ks2 else ks2 ++ [.inr n]).length ≤ 13 * i' + j' + 1 := by
        split
        · exact Nat.le_succ_of_le hb2
        · rw [List.length_append]
          exact Nat.succ_le_succ hb2
      refine w_for (ys := places) (F := rCell) (src_list (ev_var rfl)) (fun (m : Nat) (x : BX) => BSt rows (pre (wid rows) i' j') (pairsAt rows ((i' : Int), (j' : Int)) (places.take m)) x ∧ x.2.2.1.length ≤ 13 * i' + j' + 1) (fun x => bHs pd pr x) (fun _ => [some (rRows rows), some (rAt pd), some (rAt pr), some (rInt (i' : Nat)), some (rStrs r), none, some (rStr n), none, none, none, none]) (L, ks, (if (.inr n : Key) ∈ ks2 then ks2 else ks2 ++ [.inr n]), fun k => if k = .inr n then (if (.inr n : Key) ∈ ks2 then ρ (.inr n) else 0) + 4 - (places.length : Nat) else ρ k) ⟨⟨hb.l, hb.z, hb.n⟩, hks2⟩ rfl (by exact ⟨rfl, rfl, rfl, rfl, rfl, rfl, True.intro⟩) (fun _ _ => gt_name) ?_ ?_
      · rintro gs m p ⟨L, ks, ks2, ρ⟩ hp ⟨hq, hq2⟩
        have hpm : p ∈ places := List.mem_of_getElem? hp
        have hql : L.length ≤ 10000 := by
          have e1 : L = _ := hq.l
          rw [e1, List.length_append]
          have := pairs_len (rows := rows) (pre (wid rows) i' j')
          have h2 : (pairsAt rows ((i' : Int), (j' : Int)) (places.take m)).length ≤ 4 := by
            unfold pairsAt
            refine Nat.le_trans (List.length_filter_le _ _) ?_
            rw [List.length_map]
            refine Nat.le_trans (List.length_take_le' _ _) ?_
            rw [← hpl]
            exact Nat.le_trans (List.length_filter_le _ _) (Nat.le_trans (List.length_filter_le _ _) (by show 4 ≤ 4; decide))
          omega
        have hqn : ks.length ≤ L.length := hq.n
        have etk : places.take (m + 1) = places.take m ++ [p] := by rw [List.take_add_one, hp]; rfl
        refine q_asg (R := rStr (atR rows p)) (ev_atC s (hpa p hpm) (ev_var rfl) (ev_var rfl)) ?_
        refine w_when (et_test (ev_opV (ev_var rfl) (ev_var rfl) (rv_ne rfl))) (fun he => ?_) (fun he => ?_)
        · have hne : atR rows p ≠ n := fun q => by rw [q] at he; simp at he
          refine w_dput (n := 1) (p := pd) (key := [.inr n, .inr (atR rows p)]) (f' := fun k => rInt (cntK (L ++ [(n, atR rows p)]) k)) rfl (ev_opV (ev_dget2 (k := [.inr n, .inr (atR rows p)]) (R := rInt (cntK L [.inr n, .inr (atR rows p)])) (ev_var rfl) (ev_tup (ea_cons (ev_var rfl) (ea_cons (ev_var rfl) ea_nil)) (show 2 ≤ 100000 by decide)) ev_c key_strs (fun S => dat_hot (p := pd) (List.mem_cons_of_mem _ List.mem_cons_self)) (fun _ v M h => h) (fun hm v M h => by rw [hq.z _ hm]; exact h)) ev_c rv_I0) (ev_var rfl) (ev_tup (ea_cons (ev_var rfl) (ea_cons (ev_var rfl) ea_nil)) (show 2 ≤ 100000 by decide)) key_strs (Nat.le_trans hqn (Nat.le_trans hql (by decide))) (fun v M h => by rw [cntK_at]; exact h) (fun k' _ hne' v M h => by rw [cntK_no hne']; exact h) ?_
          dsimp only
          refine n_inv (L ++ [(n, atR rows p)], (if ([.inr n, .inr (atR rows p)] : List Key) ∈ ks then ks else ks ++ [[.inr n, .inr (atR rows p)]]), ks2, ρ) ⟨⟨?_, fun k' hk' => ?_, ?_⟩, hq2⟩ rfl (by exact ⟨rfl, rfl, rfl, rfl, rfl, rfl, True.intro⟩)
          · show L ++ _ = _
            have e1 : L = _ := hq.l
            rw [etk]
            unfold pairsAt
            rw [List.map_append, List.filter_append, ← List.append_assoc, e1]
            congr 1
            simp [hat, hne]
          · show cntK (L ++ _) k' = 0
            have hk' : k' ∉ (if ([.inr n, .inr (atR rows p)] : List Key) ∈ ks then ks else ks ++ [[.inr n, .inr (atR rows p)]]) := hk'
            have h1 : k' ∉ ks := fun q => hk' (by split <;> simp [q])
            have h2 : k' ≠ [.inr n, .inr (atR rows p)] := fun q => hk' (by
              split
              · next h => rw [q]; exact h
              · rw [q]; simp)
            rw [cntK_no h2]
            exact hq.z _ h1
          · show (if ([.inr n, .inr (atR rows p)] : List Key) ∈ ks then ks else ks ++ [[.inr n, .inr (atR rows p)]]).length ≤ (L ++ [(n, atR rows p)]).length
            have hqn : ks.length ≤ L.length := hqn
            split <;> simp <;> omega
        · have hne : atR rows p = n := by simpa using he
          dsimp only
          refine n_inv (L, ks, ks2, ρ) ⟨⟨?_, hq.z, hq.n⟩, hq2⟩ rfl (by exact ⟨rfl, rfl, rfl, rfl, rfl, rfl, True.intro⟩)
          show L = _
          have e1 : L = _ := hq.l
          rw [etk, e1]
          unfold pairsAt
          rw [List.map_append, List.filter_append]
          simp [hat, hne]
      · rintro ⟨L, ks, ks2, ρ⟩ ⟨hq, hq2⟩
        dsimp only
        refine n_inv (α := Nat × BX) (j' + 1, L, ks, ks2, ρ) ?_ rfl (by exact ⟨rfl, rfl, rfl, rfl, rfl, True.intro⟩)
        refine ⟨rfl, ⟨?_, hq.z, hq.n⟩, by show ks2.length ≤ _; have : ks2.length ≤ _ := hq2; omega⟩
        show L = _
        have e1 : L = _ := hq.l
        rw [e1, List.take_length, pre_next, List.flatMap_append, List.append_nil, List.flatMap_singleton]
        unfold pairsOf
        rw [hpl]
    · rintro ⟨y0, x⟩ ⟨hy0, hb, hb2⟩
      dsimp only
      rw [List.length_zipIdx, hw] at hb hb2
      refine n_inv (i' + 1, x) ⟨rfl, by rw [← pre_row]; exact hb, by show x.2.2.1.length ≤ _; have : x.2.2.1.length ≤ _ := hb2; omega⟩ rfl (by exact ⟨rfl, rfl, rfl, True.intro⟩)
  · rintro ⟨x0, L, ks, ks2, ρ⟩ ⟨hx0, hx, hx2⟩
    have e1 : L = allPairs rows := by
      have : L = _ := hx.l
      rw [this, List.length_zipIdx, List.append_nil]
      unfold allPairs pre
      rw [List.range_zero, List.map_nil, List.append_nil]
    subst e1
    refine n_cool 0 2 rfl rfl (n_cool 0 1 rfl rfl ?_)
    exact w_ret (R := rBor rows (ks, ks2, ρ)) (ev_tup (ea_cons (ev_var rfl) (ea_cons (ev_var rfl) ea_nil)) (show 2 ≤ 100000 by decide)) fun v H' f r => k v H' f ⟨(ks, ks2, ρ), hx.z, r⟩

end
end K9W
end
section
set_option Elab.async false
set_option linter.all false
set_option maxRecDepth 100000
set_option maxHeartbeats 4000000
namespace K9W
open PySem PySem.Spec PyProof.Rows L2 L2.K9R L2.K9A K9 K9M
open RZ (pi_zipA)
open C8 (Cal Met pe_c pe_mt pe_mt0 InsC call_isC pe_gc)
section
variable {P : Program} {w : World} {K : PySem.W.Frag} {hp : Heap} {mg : Str → Option Value} {base : Heap}

/-! ### plats -/
structure PlatOk (rows : Rows) (road : List Cell) : Prop where
  good : Good rows
  few : ∀ ns, Names rows ns → ns.length ≤ 12
  conn : ∀ n, (∃ r ∈ rows, n ∈ r) → Conn (· ∈ cellsOf rows n)
  rnd : road.Nodup
  redge : ∀ c ∈ road, c ∈ allC rows.length (wid rows) ∧ edgeB (rows.length : Nat) (wid rows : Nat) c = true
  rsrt : SrtC road
theorem PlatOk.rlen {rows : Rows} {road : List Cell} (ok : PlatOk rows road) : road.length ≤ 144 :=
  Nat.le_trans (nd_len ok.rnd fun c hc => (ok.redge c hc).1) (allC_144 ok.good.sh.h12 ok.good.sh.w12)
abbrev PX := List Str × List (List Key) × List Key × (Key → Int)
def fPlat (rows : Rows) (road : List Cell) (q : PX) : List (Str × Rep) := [("own_rows", rRows rows), ("own_cells", rOwn rows q.1), ("height", rInt (rows.length : Nat)), ("width", rInt (wid rows : Nat)), ("own_road", rCells road), ("own_borders", rDT q.2.1 fun k => rInt (cntK (allPairs rows) k)), ("own_rims", rDK q.2.2.1 fun k => rInt (q.2.2.2 k))]
def PQ (rows : Rows) (q : PX) : Prop := Names rows q.1 ∧ ∀ k, k ∉ q.2.1 → cntK (allPairs rows) k = 0
def hPlat (C : Addr) (rows : Rows) (road : List Cell) : HRep := hEx (PQ rows) fun q => hI C (fPlat rows road q)
abbrev rPlat (C : Addr) (rows : Rows) (road : List Cell) : Rep := rOf (hPlat C rows road)
theorem srt_head {c : Cell} {cs : List Cell} (h : SrtC (c :: cs)) : (∀ d ∈ cs, SrtO.lexB d c = false) ∧ SrtC cs := List.pairwise_cons.mp h
theorem lex_anti {c d : Cell} (h1 : SrtO.lexB c d = false) (h2 : SrtO.lexB d c = false) : c = d := by
  have a := SrtO.lexB_no.mp h1
  have b := SrtO.lexB_no.mp h2
  refine Prod.ext ?_ ?_ <;> omega
theorem srt_uniq : ∀ {cs ds : List Cell}, SrtC cs → SrtC ds → cs.Perm ds → cs = ds
  | [], ds, _, _, p => (List.Perm.eq_nil p.symm).symm
  | c :: cs, [], _, _, p => absurd p.length_eq (by simp)
  | c :: cs, d :: ds, h1, h2, p => by
    obtain ⟨a1, a2⟩ := srt_head h1
    obtain ⟨b1, b2⟩ := srt_head h2
    have e : c = d := by
      have hc : c ∈ d :: ds := p.mem_iff.mp List.mem_cons_self
      have hd : d ∈ c :: cs := p.mem_iff.mpr List.mem_cons_self
      rcases List.mem_cons.mp hc with e | hc
      · exact e
      rcases List.mem_cons.mp hd with e | hd
      · exact e.symm
      · exact lex_anti (b1 c hc) (a1 d hd)
    subst e
    rw [srt_uniq a2 b2 p.cons_inv]
theorem ev_road {b : Option Addr} {hs : Hs} {es : Es} {ta : TE} {R : Rep} {road : List Cell} (srt : SrtC road) (ha : EV b hs es ta R) (la : LAt b hs (road.map rCel) R) : EV b hs es (tCB (rSortedPO K) (tCons ta tNil)) (rCells road) :=
  (en_sortedC ha la).evX.up fun v M q => by
    obtain ⟨ds, ⟨hp, hs⟩, hv⟩ := q
    rw [srt_uniq srt hs hp.symm]
    exact hv
theorem cellsOf_ne {rows : Rows} (s : Shape rows) {n : Str} (h : ∃ r ∈ rows, n ∈ r) : cellsOf rows n ≠ [] := fun e => by
  obtain ⟨r, hr, hn⟩ := h
  obtain ⟨i, hi⟩ := List.getElem?_of_mem hr
  obtain ⟨j, hj⟩ := List.getElem?_of_mem hn
  have hil := (List.getElem?_eq_some_iff.mp hi).1
  have hjl := (List.getElem?_eq_some_iff.mp hj).1
  rw [s.rect r hr] at hjl
  have hm : ((i : Int), (j : Int)) ∈ cellsOf rows n := mem_cellsOf.mpr ⟨mem_allC.mpr ⟨i, j, rfl, hil, hjl⟩, by simp [atR, at?, hi, hj]⟩
  rw [e] at hm
  cases hm
theorem nin {f : Str} {rf : List (Str × Rep)} (ns : List Str) (e : rf.map Prod.fst = ns) (h : f ∉ ns) : f ∉ rf.map Prod.fst := e ▸ h
theorem mkr1 {n m : Nat} (h : Nat.ble (n + 1) m = true) : n < m := Nat.le_of_ble_eq_true h
def CT_P_init (C : Addr) : Option Addr → List Rep → HRep → Prop := fun _ rs h => ∃ rows road, PlatOk rows road ∧ rs = [rRows rows, rCells road] ∧ h = hPlat C rows road
theorem len_P_init {C : Addr} : ∀ b rs h, CT_P_init C b rs h → rs.length + 1 = 3 := fun _ _ _ ⟨_, _, _, e, _⟩ => by rw [e]; rfl
theorem sc_P_init : FnScope ["self", "rows", "road", "name", "row"] ["self", "rows", "road"] K9H.d_P_init.scope := ⟨rfl, rfl, rfl, by decide +kernel, rfl, by decide +kernel, by decide +kernel⟩
theorem o_P_init (X : K.In hp) (G : hp.Ns mainGlobals mg) (c : K9H.Sy K) : ∃ fd, FunD K K9H.d_P_init.name K9H.d_P_init.qual K9H.d_P_init.params K9H.d_P_init.body K9H.d_P_init.scope [] [] (He.ma K (He.ga K "Plat") "__init__") fd ∧ FnOk P w K mg base CX0 9 (He.ma K (He.ga K "Plat") "__init__") fd ["self", "rows", "road"] (SpI (He.ga K "Plat") (CT_P_init (He.ga K "Plat"))) := by
  obtain ⟨fd, F⟩ := c.def_ 18 (d := K9H.d_P_init) rfl
  have F : FunD K K9H.d_P_init.name K9H.d_P_init.qual K9H.d_P_init.params K9H.d_P_init.body K9H.d_P_init.scope [] [] _ fd := F
  have T := txt X G c
  have C_check_rows := c_check_rows (P := P) (w := w) (base := base) X G c
  have C_parcels_of := c_parcels_of (P := P) (w := w) (base := base) X G c
  have C_hangs_together := c_hangs_together (P := P) (w := w) (base := base) X G c
  have C_check_road := c_check_road (P := P) (w := w) (base := base) X G c
  have C_borders_of := c_borders_of (P := P) (w := w) (base := base) X G c
  have sc := sc_P_init
  refine ⟨fd, F, fnI (ps := ["self", "rows", "road"]) F sc (He.ga K "Plat") (CT_P_init (He.ga K "Plat")) ?_ ?_⟩
  case refine_1 => exact len_P_init
  refine fun cdv A outer s H E hr => ⟨_, (pss_cons (ps_expr (pe_c C_check_rows hr (by decide) (by rfl) (pa_cons (pv 1) pa_nil)))
  (pss_cons (ps_fld (pv 0) (pe_lc (own := [("row", 4)]) rfl sc.nd (pi_listK (K := K) rfl (pv 1)) (blkOk_by (by kernel_rfl)) (fun _ _ _ _ _ => (pg_name (i := 4) sc.nd rfl (by first | exact Or.inl rfl | exact Or.inr rfl))) (fun _ _ _ _ _ => pts_nil) (fun _ _ _ _ _ => (pe_callTy (T := "list") (call_list_ofK (K := K) rfl) (by rfl) T.z_list (by decide +kernel) (pa_cons (pv 4) pa_nil)))) rfl)
  (pss_cons (ps_fld (pv 0) (pe_c C_parcels_of hr (by decide) (by rfl) (pa_cons (pe_fld (pv 0) rfl) pa_nil)) rfl)
  (pss_cons (ps_if (pt_cmpR op_gt (pe_callB (id := "len") call_lenDK (by rfl) T.z_len (by decide +kernel) (pa_cons (pe_fld (pv 0) rfl) pa_nil)) (pe_gc (by rfl) T.g_MOST_PARCELS) (nomark _))
  (pss_one ps_never)
  pss_nil)
  (pss_cons (ps_lock (ps_for PassesOwn.never rfl (pi_keys (pe_fld (pv 0) rfl)) (pg_name (i := 3) sc.nd rfl (by first | exact Or.inl rfl | exact Or.inr rfl))
  (pss_one (ps_if (pt_not (pt_val (pe_c C_hangs_together hr (by decide) (by rfl) (pa_cons (pe_dget (hu_of hr) (pe_fld (pv 0) rfl) (pv 3) (fun _ _ => rfl)) pa_nil))))
  (pss_one ps_never)
  pss_nil))))
  (pss_cons (ps_fld (pv 0) (pe_callB (id := "len") (call_lenK (K := K) rfl) (by rfl) T.z_len (by decide +kernel) (pa_cons (pe_fld (pv 0) rfl) pa_nil)) rfl)
  (pss_cons (ps_fld (pv 0) (pe_callB (id := "len") (call_lenK (K := K) rfl) (by rfl) T.z_len (by decide +kernel) (pa_cons (pe_ix (ix_listK (K := K) rfl) (pe_fld (pv 0) rfl) pe_int (fun _ _ => rfl)) pa_nil)) rfl)
  (pss_cons (ps_expr (pe_c C_check_road hr (by decide) (by rfl) (pa_cons (pv 2) (pa_cons (pe_fld (pv 0) rfl) (pa_cons (pe_fld (pv 0) rfl) pa_nil)))))
  (pss_cons (ps_fld (pv 0) (pe_callB (id := "sorted") cr_sortedPO (by rfl) T.z_sorted (by decide +kernel) (pa_cons (pe_callTy (T := "list") (call_list_ofK (K := K) rfl) (by rfl) T.z_list (by decide +kernel) (pa_cons (pv 2) pa_nil)) pa_nil)) rfl)
  (pss_one (ps_asg (pe_c C_borders_of hr (by decide) (by rfl) (pa_cons (pe_fld (pv 0) rfl) pa_nil)) (pg_tupK (K := K) (n := 2) rfl rfl (pgs_cons (pg_fld (pv 0)) (pgs_cons (pg_fld (pv 0)) pgs_nil)))))))))))))), fun B Q rs h x hC hgs k => ?_⟩
  obtain ⟨rows, road, ok, rfl, rfl⟩ := hC
  have s := ok.good.sh
  have h12 := s.h12
  have w12 := s.w12
  refine q_drop (ev_call (ea_cons (ev_var rfl) ea_nil) ⟨rows, ok.good, rfl, rfl⟩) ?_
  refine q_setF (n := 0) (p := x) (R := rRows rows) rfl (ev_to (en_lcA rows rStrs (src_list (ev_var rfl)) (fun _ _ => gt_name) (fun _ h => h) (by omega) (fun r hr => (en_list (ev_var rfl) lat_data).ev)).ev rfl) (ev_var rfl) T.cl T.a_own_rows (nin [] rfl (by decide +kernel)) (mkr1 rfl) ?_
  dsimp only
  refine q_setFN (n := 0) (p := x) (h := hEx (Names rows) (hOwn rows)) rfl (en_call (ea_cons (ev_fld (ev_var rfl) (iat_hot List.mem_cons_self) T.cl T.a_own_rows rfl) ea_nil) ⟨rows, s, rfl, rfl⟩) (fun d => ev_var rfl) T.cl T.a_own_cells (nin ["own_rows"] rfl (by decide +kernel)) (mkr1 rfl) fun d => ?_
  refine n_hex (n := 0) rfl fun ns hns => ?_
  have l12 := ok.few ns hns
  show N B [(d, hOwn rows ns), (x, hI (He.ga K "Plat") [("own_rows", rRows rows), ("own_cells", rAt d)])] _ _
  refine q_no (et_to (et_test (ev_opV (ev_lenDK (ev_fld (ev_var rfl) (iat_hot (List.mem_cons_of_mem _ List.mem_cons_self)) T.cl T.a_own_cells rfl) (fun S => dkat_hot List.mem_cons_self)) ev_c rv_I0)) ?_) ?_
  · refine decide_eq_false ?_
    rw [List.length_map]
    omega
  refine q_lock (n := 0) rfl mut_dK fun od u => ?_
  show N B [(d, hFz od u (hOwn rows ns)), (x, hI (He.ga K "Plat") [("own_rows", rRows rows), ("own_cells", rAt d)])] _ _
  refine w_forC (ys := ns.map (Sum.inr : Str → Key)) (F := fun k => rC (kV k)) (src_keysK List.mem_cons_self (ev_fld (ev_var rfl) (iat_hot (List.mem_cons_of_mem _ List.mem_cons_self)) T.cl T.a_own_cells rfl)) (fun (_ : Nat) (_ : Unit) => True) (fun _ => [(d, hFz od u (hOwn rows ns)), (x, hI (He.ga K "Plat") [("own_rows", rRows rows), ("own_cells", rAt d)])]) (fun _ => [some (rAt x), some (rRows rows), some (rCells road), none, none]) () True.intro rfl (by exact ⟨rfl, rfl, rfl, True.intro⟩) (fun _ _ => gt_name) (fun _ S H ho => cnZ List.mem_cons_self ho) ?_ ?_
  · rintro i k ⟨⟩ hk _
    obtain ⟨n, hn, rfl⟩ := List.mem_map.mp (List.mem_of_getElem? hk)
    have hin := (hns.mem n).mp hn
    refine w_no (et_to (et_not (et_B (ev_call (ea_cons (ev_dkgetZ (f := rParc rows) (k := .inr n) List.mem_cons_self (ev_fld (ev_var rfl) (iat_hot (List.mem_cons_of_mem _ List.mem_cons_self)) T.cl T.a_own_cells rfl) (ev_var rfl) (List.mem_map.mpr ⟨n, hn, rfl⟩)) ea_nil) ⟨cellsOf rows n, nd_cellsOf rows n, cellsOf_ne s hin, ok.conn n hin, fun c hc => okC_allC h12 w12 (mem_cellsOf.mp hc).1, by have := cells144 s n; omega, rfl, rfl⟩))) rfl) ?_
    dsimp only
    exact n_inv () True.intro rfl (by exact ⟨rfl, rfl, rfl, True.intro⟩)
  · rintro ⟨⟩ _
    refine n_unlock (n := 0) rfl ?_
    refine n_coolF (x := x) (d := d) (h := hOwn rows ns) (C := He.ga K "Plat") (pre := [("own_rows", rRows rows)]) (f := "own_cells") (post := []) (hs := []) ?_
    show N B [(x, hI (He.ga K "Plat") [("own_rows", rRows rows), ("own_cells", rOwn rows ns)])] _ _
    refine q_setF (n := 0) (p := x) (R := rInt (rows.length : Nat)) rfl (ev_nrows (ev_fld (ev_var rfl) (iat_hot List.mem_cons_self) T.cl T.a_own_rows rfl)) (ev_var rfl) T.cl T.a_height (nin ["own_rows", "own_cells"] rfl (by decide +kernel)) (mkr1 rfl) ?_
    refine q_setF (n := 0) (p := x) (R := rInt (wid rows : Nat)) rfl (ev_wid s (ev_fld (ev_var rfl) (iat_hot List.mem_cons_self) T.cl T.a_own_rows rfl)) (ev_var rfl) T.cl T.a_width (nin ["own_rows", "own_cells", "height"] rfl (by decide +kernel)) (mkr1 rfl) ?_
    refine q_drop (ev_call (ea_cons (ev_var rfl) (ea_cons (ev_fld (ev_var rfl) (iat_hot List.mem_cons_self) T.cl T.a_height rfl) (ea_cons (ev_fld (ev_var rfl) (iat_hot List.mem_cons_self) T.cl T.a_width rfl) ea_nil))) ⟨road, rows.length, wid rows, ok.rnd, ok.redge, h12, w12, by have := ok.rlen; omega, rfl, rfl⟩) ?_
    refine q_setF (n := 0) (p := x) (R := rCells road) rfl (ev_road ok.rsrt (en_list (ev_var rfl) lat_data).ev lat_data) (ev_var rfl) T.cl T.a_own_road (nin ["own_rows", "own_cells", "height", "width"] rfl (by decide +kernel)) (mkr1 rfl) ?_
    refine w_setF2X (n := 0) (p := x) (R1 := fun q : List (List Key) × List Key × (Key → Int) => rDT q.1 fun k => rInt (cntK (allPairs rows) k)) (R2 := fun q => rDK q.2.1 fun k => rInt (q.2.2 k)) rfl (ev_call (ea_cons (ev_fld (ev_var rfl) (iat_hot List.mem_cons_self) T.cl T.a_own_rows rfl) ea_nil) ⟨rows, s, rfl, rfl⟩) rfl T.cl T.a_own_borders T.a_own_rims (nin ["own_rows", "own_cells", "height", "width", "own_road"] rfl (by decide +kernel)) (fun R => nin ["own_rows", "own_cells", "height", "width", "own_road", "own_borders"] rfl (by decide +kernel)) (mkr1 rfl) fun z hz => ?_
    exact n_fallI fun o H' fn ho hh => k o H' fn ho ⟨(ns, z), ⟨hns, hz⟩, hh⟩
theorem c_P_init (X : K.In hp) (G : hp.Ns mainGlobals mg) (c : K9H.Sy K) : MakK P w K mg base 9 "Plat" (He.ga K "Plat") (SpI (He.ga K "Plat") (CT_P_init (He.ga K "Plat"))) 1 ["road"] (fun vs zs => vs ++ zs) := by
  obtain ⟨fd, F, G1⟩ := o_P_init (P := P) (w := w) (base := base) X G c
  exact ⟨_, fd, ["self", "rows", "road"], _, He.mkr_ok (c.fact 72 (f := .mkr "Plat") rfl), G1, He.glo_ok X G (c.fact 49 (f := .glo "Plat") rfl), kbnD F 2 ["road"] (fun us ws => us ++ ws) (fun r1 r2 => r1.append r2) fun _ _ _ _ _ _ us ws h1 h2 => match us, ws, h1, h2 with | [_, _], [_], _, _ => rfl⟩

end
end K9W
end
section
set_option Elab.async false
set_option linter.all false
set_option maxRecDepth 100000
set_option maxHeartbeats 4000000
namespace K9W
open PySem PySem.Spec PyProof.Rows L2 L2.K9R L2.K9A K9 K9M
open RZ (pi_zipA)
open C8 (Cal Met pe_c pe_mt pe_mt0 InsC call_isC pe_gc)
section
variable {P : Program} {w : World} {K : PySem.W.Frag} {hp : Heap} {mg : Str → Option Value} {base : Heap}

theorem isIns_P {C : Addr} {rows : Rows} {road : List Cell} {m : Str} (h : m ∉ (["own_rows", "own_cells", "height", "width", "own_road", "own_borders", "own_rims"] : List Str)) : IsIns C m (rPlat C rows road) := fun v M q => by
  obtain ⟨a, o, e1, e2, z, _, q⟩ := q
  exact isIns_I (rf := fPlat rows road z) (nin ["own_rows", "own_cells", "height", "width", "own_road", "own_borders", "own_rims"] rfl h) v M ⟨a, o, e1, e2, q⟩
theorem n_plat {B : Bs} {hs : Hs} {es : Es} {T : L2.St → Hp → Prop} {C : Addr} {rows : Rows} {road : List Cell} {i : Nat} (hi : es[i]? = some (some (rPlat C rows road))) (k : ∀ q, PQ rows q → N B hs (es.set i (some (rOf (hI C (fPlat rows road q))))) T) : N B hs es T := n_exO (P := PQ rows) (f := fun q => hI C (fPlat rows road q)) hi k
abbrev InR (rows : Rows) (n : Str) : Prop := ∃ r ∈ rows, n ∈ r
def CT_P_need_parcel (C : Addr) : Option Addr → List Rep → Rep → Prop := fun _ rs R => ∃ rows road n, InR rows n ∧ rs = [rPlat C rows road, rStr n] ∧ R = rNon
theorem len_P_need_parcel {C : Addr} : ∀ b rs R, CT_P_need_parcel C b rs R → rs.length = 2 := fun _ _ _ ⟨_, _, _, _, e, _⟩ => by rw [e]; rfl
theorem sc_P_need_parcel : FnScope ["self", "name"] ["self", "name"] K9H.d_P_need_parcel.scope := ⟨rfl, rfl, rfl, by decide +kernel, rfl, by decide +kernel, by decide +kernel⟩
theorem o_P_need_parcel (X : K.In hp) (G : hp.Ns mainGlobals mg) (c : K9H.Sy K) : ∃ fd, FunD K K9H.d_P_need_parcel.name K9H.d_P_need_parcel.qual K9H.d_P_need_parcel.params K9H.d_P_need_parcel.body K9H.d_P_need_parcel.scope [] [] (He.ma K (He.ga K "Plat") "need_parcel") fd ∧ FnOk P w K mg base CX0 1 (He.ma K (He.ga K "Plat") "need_parcel") fd ["self", "name"] (SpD (CT_P_need_parcel (He.ga K "Plat"))) := by
  obtain ⟨fd, F⟩ := c.def_ 27 (d := K9H.d_P_need_parcel) rfl
  have F : FunD K K9H.d_P_need_parcel.name K9H.d_P_need_parcel.qual K9H.d_P_need_parcel.params K9H.d_P_need_parcel.body K9H.d_P_need_parcel.scope [] [] _ fd := F
  have T := txt X G c
  have sc := sc_P_need_parcel
  refine ⟨fd, F, fnD (ps := ["self", "name"]) F sc (CT_P_need_parcel (He.ga K "Plat")) ?_ ?_⟩
  case refine_1 => exact len_P_need_parcel
  refine fun cdv A outer s H E hr => ⟨_, (pss_one (ps_if (PW.pt (pw_or (pt_not (pt_val (pe_callB (id := "isinstance") (call_isiK (K := K) rfl) (by rfl) T.z_isinstance (by decide +kernel) (pa_cons (pv 1) (pa_cons (pe_bltn (v := .ty "str") (by rfl) T.z_str (by decide +kernel) rfl) pa_nil))))) (pw_or1 (pt_cmp (pc_dnotin (hu_of hr) (pv 1) (pe_fld (pv 0) rfl))))))
  (pss_one ps_never)
  pss_nil)), fun B Q rs R hC hgs k => ?_⟩
  obtain ⟨rows, road, n, hn, rfl, rfl⟩ := hC
  refine n_plat (i := 0) rfl fun q hq => ?_
  refine w_no (et_to (et_or (et_not (et_B (ev_isi (c := true) (ev_var rfl) ty_str (by decide +kernel)))) fun _ => (et_B (ev_dknotin (k := .inr n) (ev_var rfl) (ev_fld (ev_var rfl) iat_data T.cl T.a_own_cells rfl) (fun _ => dkat_data)))) ?_) ?_
  · rw [decide_eq_true (List.mem_map.mpr ⟨n, (hq.1.mem n).mpr hn, rfl⟩)]
    rfl
  exact n_fall k fun _ => rfl
theorem c_P_need_parcel (X : K.In hp) (G : hp.Ns mainGlobals mg) (c : K9H.Sy K) : Met P w K mg base 1 (He.ga K "Plat") "need_parcel" (SpD (CT_P_need_parcel (He.ga K "Plat"))) [] := by
  obtain ⟨fd, F, G1⟩ := o_P_need_parcel (P := P) (w := w) (base := base) X G c
  exact metD F (txt X G c).cl (He.meth_ok (c.fact 88 (f := .meth "Plat" "need_parcel") rfl)) (bindsD F fun _ _ _ _ _ _ us hl => match us, hl with | [_, _], _ => rfl) G1
def CT_P_names (C : Addr) : Option Addr → List Rep → Rep → Prop := fun _ rs R => ∃ rows road, rs = [rPlat C rows road] ∧ R = rEx (Names rows) rStrs
theorem len_P_names {C : Addr} : ∀ b rs R, CT_P_names C b rs R → rs.length = 1 := fun _ _ _ ⟨_, _, e, _⟩ => by rw [e]; rfl
theorem sc_P_names : FnScope ["self"] ["self"] K9H.d_P_names.scope := ⟨rfl, rfl, rfl, by decide +kernel, rfl, by decide +kernel, by decide +kernel⟩
theorem o_P_names (X : K.In hp) (G : hp.Ns mainGlobals mg) (c : K9H.Sy K) : ∃ fd, FunD K K9H.d_P_names.name K9H.d_P_names.qual K9H.d_P_names.params K9H.d_P_names.body K9H.d_P_names.scope [] [] (He.ma K (He.ga K "Plat") "names") fd ∧ FnOk P w K mg base CX0 1 (He.ma K (He.ga K "Plat") "names") fd ["self"] (SpD (CT_P_names (He.ga K "Plat"))) := by
  obtain ⟨fd, F⟩ := c.def_ 21 (d := K9H.d_P_names) rfl
  have F : FunD K K9H.d_P_names.name K9H.d_P_names.qual K9H.d_P_names.params K9H.d_P_names.body K9H.d_P_names.scope [] [] _ fd := F
  have T := txt X G c
  have sc := sc_P_names
  refine ⟨fd, F, fnD (ps := ["self"]) F sc (CT_P_names (He.ga K "Plat")) ?_ ?_⟩
  case refine_1 => exact len_P_names
  refine fun cdv A outer s H E hr => ⟨_, (pss_one (ps_ret (pe_callTy (T := "list") (call_listKK rfl) (by rfl) T.z_list (by decide +kernel) (pa_cons (pe_fld (pv 0) rfl) pa_nil)))), fun B Q rs R hC hgs k => ?_⟩
  obtain ⟨rows, road, rfl, rfl⟩ := hC
  refine n_plat (i := 0) rfl fun q hq => ?_
  refine w_ret (R := rEx (Names rows) rStrs) (EV.up (ev_to (R' := rStrs q.1) (en_cb (ea_cons (ev_fld (ev_var rfl) iat_data T.cl T.a_own_cells rfl) ea_nil) rn_listK).ev ?_) fun v M h => ⟨q.1, hq.1, h⟩) k
  show rL _ = rL _
  rw [List.map_map]
  rfl
theorem c_P_names (X : K.In hp) (G : hp.Ns mainGlobals mg) (c : K9H.Sy K) : Met P w K mg base 1 (He.ga K "Plat") "names" (SpD (CT_P_names (He.ga K "Plat"))) [] := by
  obtain ⟨fd, F, G1⟩ := o_P_names (P := P) (w := w) (base := base) X G c
  exact metD F (txt X G c).cl (He.meth_ok (c.fact 82 (f := .meth "Plat" "names") rfl)) (bindsD F fun _ _ _ _ _ _ us hl => match us, hl with | [_], _ => rfl) G1
def rowH (rows : Rows) (i : Nat) : HRep := hL ((rows.getD i []).map rStr)
def GRows (rows : Rows) : Addr → Hs → Prop := fun p hn => ∃ ad : Nat → Addr, hn = nestF ad (rowH rows) rows.length ++ [(p, hL ((List.range rows.length).map fun i => rAt (ad i)))]
def CT_P_rows (C : Addr) : Option Addr → List Rep → (Addr → Hs → Prop) → Prop := fun _ rs G => ∃ rows road, Shape rows ∧ rs = [rPlat C rows road] ∧ G = GRows rows
theorem len_P_rows {C : Addr} : ∀ b rs G, CT_P_rows C b rs G → rs.length = 1 := fun _ _ _ ⟨_, _, _, e, _⟩ => by rw [e]; rfl
theorem sc_P_rows : FnScope ["self", "row"] ["self"] K9H.d_P_rows.scope := ⟨rfl, rfl, rfl, by decide +kernel, rfl, by decide +kernel, by decide +kernel⟩
theorem o_P_rows (X : K.In hp) (G : hp.Ns mainGlobals mg) (c : K9H.Sy K) : ∃ fd, FunD K K9H.d_P_rows.name K9H.d_P_rows.qual K9H.d_P_rows.params K9H.d_P_rows.body K9H.d_P_rows.scope [] [] (He.ma K (He.ga K "Plat") "rows") fd ∧ FnOk P w K mg base CX0 1 (He.ma K (He.ga K "Plat") "rows") fd ["self"] (SpM (CT_P_rows (He.ga K "Plat"))) := by
  obtain ⟨fd, F⟩ := c.def_ 19 (d := K9H.d_P_rows) rfl
  have F : FunD K K9H.d_P_rows.name K9H.d_P_rows.qual K9H.d_P_rows.params K9H.d_P_rows.body K9H.d_P_rows.scope [] [] _ fd := F
  have T := txt X G c
  have sc := sc_P_rows
  refine ⟨fd, F, fnM (ps := ["self"]) F sc (CT_P_rows (He.ga K "Plat")) ?_ ?_⟩
  case refine_1 => exact len_P_rows
  refine fun cdv A outer s H E hr => ⟨_, (pss_one (ps_ret (pe_lc (own := [("row", 1)]) rfl sc.nd (pi_listK (K := K) rfl (pe_fld (pv 0) rfl)) (blkOk_by (by kernel_rfl)) (fun _ _ _ _ _ => (pg_name (i := 1) sc.nd rfl (by first | exact Or.inl rfl | exact Or.inr rfl))) (fun _ _ _ _ _ => pts_nil) (fun _ _ _ _ _ => (pe_callTy (T := "list") (call_list_ofK (K := K) rfl) (by rfl) T.z_list (by decide +kernel) (pa_cons (pv 1) pa_nil)))))), fun B Q rs R hC hgs k => ?_⟩
  obtain ⟨rows, road, s, rfl, rfl⟩ := hC
  have h12 := s.h12
  refine n_plat (i := 0) rfl fun q hq => ?_
  refine n_lcN (hs := []) (ys := rows) (F := rStrs) (gf := rowH rows) (src_list (ev_fld (ev_var rfl) iat_data T.cl T.a_own_rows rfl)) (fun _ _ => gt_name) (fun _ h => h) (by omega) (fun i r hr => ?_) (fun p ad σ H st => k p _ H ⟨ad, rfl⟩ st.frM)
  have e : rows.getD i [] = r := by simp [List.getD, hr]
  unfold rowH
  rw [e]
  exact en_list (ev_var rfl) lat_data
theorem c_P_rows (X : K.In hp) (G : hp.Ns mainGlobals mg) (c : K9H.Sy K) : Met P w K mg base 1 (He.ga K "Plat") "rows" (SpM (CT_P_rows (He.ga K "Plat"))) [] := by
  obtain ⟨fd, F, G1⟩ := o_P_rows (P := P) (w := w) (base := base) X G c
  exact metD F (txt X G c).cl (He.meth_ok (c.fact 80 (f := .meth "Plat" "rows") rfl)) (bindsD F fun _ _ _ _ _ _ us hl => match us, hl with | [_], _ => rfl) G1
def CT_P_road (C : Addr) : Option Addr → List Rep → Rep → Prop := fun _ rs R => ∃ rows road, rs = [rPlat C rows road] ∧ R = rCells road
theorem len_P_road {C : Addr} : ∀ b rs R, CT_P_road C b rs R → rs.length = 1 := fun _ _ _ ⟨_, _, e, _⟩ => by rw [e]; rfl
theorem sc_P_road : FnScope ["self"] ["self"] K9H.d_P_road.scope := ⟨rfl, rfl, rfl, by decide +kernel, rfl, by decide +kernel, by decide +kernel⟩
theorem o_P_road (X : K.In hp) (G : hp.Ns mainGlobals mg) (c : K9H.Sy K) : ∃ fd, FunD K K9H.d_P_road.name K9H.d_P_road.qual K9H.d_P_road.params K9H.d_P_road.body K9H.d_P_road.scope [] [] (He.ma K (He.ga K "Plat") "road") fd ∧ FnOk P w K mg base CX0 1 (He.ma K (He.ga K "Plat") "road") fd ["self"] (SpD (CT_P_road (He.ga K "Plat"))) := by
  obtain ⟨fd, F⟩ := c.def_ 20 (d := K9H.d_P_road) rfl
  have F : FunD K K9H.d_P_road.name K9H.d_P_road.qual K9H.d_P_road.params K9H.d_P_road.body K9H.d_P_road.scope [] [] _ fd := F
  have T := txt X G c
  have sc := sc_P_road
  refine ⟨fd, F, fnD (ps := ["self"]) F sc (CT_P_road (He.ga K "Plat")) ?_ ?_⟩
  case refine_1 => exact len_P_road
  refine fun cdv A outer s H E hr => ⟨_, (pss_one (ps_ret (pe_callTy (T := "list") (call_list_ofK (K := K) rfl) (by rfl) T.z_list (by decide +kernel) (pa_cons (pe_fld (pv 0) rfl) pa_nil)))), fun B Q rs R hC hgs k => ?_⟩
  obtain ⟨rows, road, rfl, rfl⟩ := hC
  refine n_plat (i := 0) rfl fun q hq => ?_
  exact w_ret (R := rCells road) (en_list (ev_fld (ev_var rfl) iat_data T.cl T.a_own_road rfl) lat_data).ev k
theorem c_P_road (X : K.In hp) (G : hp.Ns mainGlobals mg) (c : K9H.Sy K) : Met P w K mg base 1 (He.ga K "Plat") "road" (SpD (CT_P_road (He.ga K "Plat"))) [] := by
  obtain ⟨fd, F, G1⟩ := o_P_road (P := P) (w := w) (base := base) X G c
  exact metD F (txt X G c).cl (He.meth_ok (c.fact 81 (f := .meth "Plat" "road") rfl)) (bindsD F fun _ _ _ _ _ _ us hl => match us, hl with | [_], _ => rfl) G1
def CT_P_len (C : Addr) : Option Addr → List Rep → Rep → Prop := fun _ rs R => ∃ rows road, rs = [rPlat C rows road] ∧ R = rEx (Names rows) fun ns => rInt (ns.length : Nat)
theorem len_P_len {C : Addr} : ∀ b rs R, CT_P_len C b rs R → rs.length = 1 := fun _ _ _ ⟨_, _, e, _⟩ => by rw [e]; rfl
theorem sc_P_len : FnScope ["self"] ["self"] K9H.d_P_len.scope := ⟨rfl, rfl, rfl, by decide +kernel, rfl, by decide +kernel, by decide +kernel⟩
theorem o_P_len (X : K.In hp) (G : hp.Ns mainGlobals mg) (c : K9H.Sy K) : ∃ fd, FunD K K9H.d_P_len.name K9H.d_P_len.qual K9H.d_P_len.params K9H.d_P_len.body K9H.d_P_len.scope [] [] (He.ma K (He.ga K "Plat") "__len__") fd ∧ FnOk P w K mg base CX0 1 (He.ma K (He.ga K "Plat") "__len__") fd ["self"] (SpD (CT_P_len (He.ga K "Plat"))) := by
  obtain ⟨fd, F⟩ := c.def_ 29 (d := K9H.d_P_len) rfl
  have F : FunD K K9H.d_P_len.name K9H.d_P_len.qual K9H.d_P_len.params K9H.d_P_len.body K9H.d_P_len.scope [] [] _ fd := F
  have T := txt X G c
  have sc := sc_P_len
  refine ⟨fd, F, fnD (ps := ["self"]) F sc (CT_P_len (He.ga K "Plat")) ?_ ?_⟩
  case refine_1 => exact len_P_len
  refine fun cdv A outer s H E hr => ⟨_, (pss_one (ps_ret (pe_callB (id := "len") call_lenDK (by rfl) T.z_len (by decide +kernel) (pa_cons (pe_fld (pv 0) rfl) pa_nil)))), fun B Q rs R hC hgs k => ?_⟩
  obtain ⟨rows, road, rfl, rfl⟩ := hC
  refine n_plat (i := 0) rfl fun q hq => ?_
  refine w_ret (EV.up (R' := rEx (Names rows) fun ns => rInt (ns.length : Nat)) (ev_lenDK (ev_fld (ev_var rfl) iat_data T.cl T.a_own_cells rfl) (fun _ => dkat_data)) fun v M h => ⟨q.1, hq.1, ?_⟩) k
  rw [List.length_map] at h
  exact h
theorem c_P_len (X : K.In hp) (G : hp.Ns mainGlobals mg) (c : K9H.Sy K) : Met P w K mg base 1 (He.ga K "Plat") "__len__" (SpD (CT_P_len (He.ga K "Plat"))) [] := by
  obtain ⟨fd, F, G1⟩ := o_P_len (P := P) (w := w) (base := base) X G c
  exact metD F (txt X G c).cl (He.meth_ok (c.fact 90 (f := .meth "Plat" "__len__") rfl)) (bindsD F fun _ _ _ _ _ _ us hl => match us, hl with | [_], _ => rfl) G1
def CT_P_area (C : Addr) : Option Addr → List Rep → Rep → Prop := fun _ rs R => ∃ rows road n, InR rows n ∧ rs = [rPlat C rows road, rStr n] ∧ R = rInt ((cellsOf rows n).length : Nat)
theorem len_P_area {C : Addr} : ∀ b rs R, CT_P_area C b rs R → rs.length = 2 := fun _ _ _ ⟨_, _, _, _, e, _⟩ => by rw [e]; rfl
theorem sc_P_area : FnScope ["self", "name"] ["self", "name"] K9H.d_P_area.scope := ⟨rfl, rfl, rfl, by decide +kernel, rfl, by decide +kernel, by decide +kernel⟩
theorem o_P_area (X : K.In hp) (G : hp.Ns mainGlobals mg) (c : K9H.Sy K) : ∃ fd, FunD K K9H.d_P_area.name K9H.d_P_area.qual K9H.d_P_area.params K9H.d_P_area.body K9H.d_P_area.scope [] [] (He.ma K (He.ga K "Plat") "area") fd ∧ FnOk P w K mg base CX0 2 (He.ma K (He.ga K "Plat") "area") fd ["self", "name"] (SpD (CT_P_area (He.ga K "Plat"))) := by
  obtain ⟨fd, F⟩ := c.def_ 22 (d := K9H.d_P_area) rfl
  have F : FunD K K9H.d_P_area.name K9H.d_P_area.qual K9H.d_P_area.params K9H.d_P_area.body K9H.d_P_area.scope [] [] _ fd := F
  have T := txt X G c
  have M_need_parcel := c_P_need_parcel (P := P) (w := w) (base := base) X G c
  have sc := sc_P_area
  refine ⟨fd, F, fnD (ps := ["self", "name"]) F sc (CT_P_area (He.ga K "Plat")) ?_ ?_⟩
  case refine_1 => exact len_P_area
  refine fun cdv A outer s H E hr => ⟨_, (pss_cons (ps_expr (pe_mt M_need_parcel hr (by decide) (pv 0) (pa_cons (pv 1) pa_nil)))
  (pss_one (ps_ret (pe_callB (id := "len") (call_lenK (K := K) rfl) (by rfl) T.z_len (by decide +kernel) (pa_cons (pe_dget (hu_of hr) (pe_fld (pv 0) rfl) (pv 1) (fun _ _ => rfl)) pa_nil))))), fun B Q rs R hC hgs k => ?_⟩
  obtain ⟨rows, road, n, hn, rfl, rfl⟩ := hC
  refine q_drop (ev_mt (ev_var rfl) (isIns_P (by decide +kernel)) (ea_cons (ev_var rfl) ea_nil) ⟨rows, road, n, hn, rfl, rfl⟩) ?_
  refine n_plat (i := 0) rfl fun q hq => ?_
  exact w_ret (R := rInt ((cellsOf rows n).length : Nat)) (ev_lenM (ev_dkget (f := rParc rows) (k := .inr n) (ev_fld (ev_var rfl) iat_data T.cl T.a_own_cells rfl) (ev_var rfl) (fun _ => dkat_data) (List.mem_map.mpr ⟨n, (hq.1.mem n).mpr hn, rfl⟩)) lat_data) k
theorem c_P_area (X : K.In hp) (G : hp.Ns mainGlobals mg) (c : K9H.Sy K) : Met P w K mg base 2 (He.ga K "Plat") "area" (SpD (CT_P_area (He.ga K "Plat"))) [] := by
  obtain ⟨fd, F, G1⟩ := o_P_area (P := P) (w := w) (base := base) X G c
  exact metD F (txt X G c).cl (He.meth_ok (c.fact 83 (f := .meth "Plat" "area") rfl)) (bindsD F fun _ _ _ _ _ _ us hl => match us, hl with | [_, _], _ => rfl) G1
def CT_P_outline (C : Addr) : Option Addr → List Rep → Rep → Prop := fun _ rs R => ∃ rows road n, Shape rows ∧ InR rows n ∧ rs = [rPlat C rows road, rStr n] ∧ R = rInt (sideCount (cellsOf rows n))
theorem len_P_outline {C : Addr} : ∀ b rs R, CT_P_outline C b rs R → rs.length = 2 := fun _ _ _ ⟨_, _, _, _, _, e, _⟩ => by rw [e]; rfl
theorem sc_P_outline : FnScope ["self", "name"] ["self", "name"] K9H.d_P_outline.scope := ⟨rfl, rfl, rfl, by decide +kernel, rfl, by decide +kernel, by decide +kernel⟩
theorem o_P_outline (X : K.In hp) (G : hp.Ns mainGlobals mg) (c : K9H.Sy K) : ∃ fd, FunD K K9H.d_P_outline.name K9H.d_P_outline.qual K9H.d_P_outline.params K9H.d_P_outline.body K9H.d_P_outline.scope [] [] (He.ma K (He.ga K "Plat") "outline") fd ∧ FnOk P w K mg base CX0 6 (He.ma K (He.ga K "Plat") "outline") fd ["self", "name"] (SpD (CT_P_outline (He.ga K "Plat"))) := by
  obtain ⟨fd, F⟩ := c.def_ 23 (d := K9H.d_P_outline) rfl
  have F : FunD K K9H.d_P_outline.name K9H.d_P_outline.qual K9H.d_P_outline.params K9H.d_P_outline.body K9H.d_P_outline.scope [] [] _ fd := F
  have T := txt X G c
  have C_side_count := c_side_count (P := P) (w := w) (base := base) X G c
  have M_need_parcel := c_P_need_parcel (P := P) (w := w) (base := base) X G c
  have sc := sc_P_outline
  refine ⟨fd, F, fnD (ps := ["self", "name"]) F sc (CT_P_outline (He.ga K "Plat")) ?_ ?_⟩
  case refine_1 => exact len_P_outline
  refine fun cdv A outer s H E hr => ⟨_, (pss_cons (ps_expr (pe_mt M_need_parcel hr (by decide) (pv 0) (pa_cons (pv 1) pa_nil)))
  (pss_one (ps_ret (pe_c C_side_count hr (by decide) (by rfl) (pa_cons (pe_dget (hu_of hr) (pe_fld (pv 0) rfl) (pv 1) (fun _ _ => rfl)) pa_nil))))), fun B Q rs R hC hgs k => ?_⟩
  obtain ⟨rows, road, n, s, hn, rfl, rfl⟩ := hC
  refine q_drop (ev_mt (ev_var rfl) (isIns_P (by decide +kernel)) (ea_cons (ev_var rfl) ea_nil) ⟨rows, road, n, hn, rfl, rfl⟩) ?_
  refine n_plat (i := 0) rfl fun q hq => ?_
  exact w_ret (R := rInt (sideCount (cellsOf rows n))) (ev_call (ea_cons (ev_dkget (f := rParc rows) (k := .inr n) (ev_fld (ev_var rfl) iat_data T.cl T.a_own_cells rfl) (ev_var rfl) (fun _ => dkat_data) (List.mem_map.mpr ⟨n, (hq.1.mem n).mpr hn, rfl⟩)) ea_nil) ⟨cellsOf rows n, nd_cellsOf rows n, fun c hc => okC_allC s.h12 s.w12 (mem_cellsOf.mp hc).1, by have := cells144 s n; omega, rfl, rfl⟩) k
theorem c_P_outline (X : K.In hp) (G : hp.Ns mainGlobals mg) (c : K9H.Sy K) : Met P w K mg base 6 (He.ga K "Plat") "outline" (SpD (CT_P_outline (He.ga K "Plat"))) [] := by
  obtain ⟨fd, F, G1⟩ := o_P_outline (P := P) (w := w) (base := base) X G c
  exact metD F (txt X G c).cl (He.meth_ok (c.fact 84 (f := .meth "Plat" "outline") rfl)) (bindsD F fun _ _ _ _ _ _ us hl => match us, hl with | [_, _], _ => rfl) G1
abbrev bord (rows : Rows) (a b : Str) : Nat := cntK (allPairs rows) [.inr a, .inr b]
def CT_P_border (C : Addr) : Option Addr → List Rep → Rep → Prop := fun _ rs R => ∃ rows road a b, InR rows a ∧ InR rows b ∧ rs = [rPlat C rows road, rStr a, rStr b] ∧ R = rInt (bord rows a b)
theorem len_P_border {C : Addr} : ∀ b rs R, CT_P_border C b rs R → rs.length = 3 := fun _ _ _ ⟨_, _, _, _, _, _, e, _⟩ => by rw [e]; rfl
theorem sc_P_border : FnScope ["self", "first", "second"] ["self", "first", "second"] K9H.d_P_border.scope := ⟨rfl, rfl, rfl, by decide +kernel, rfl, by decide +kernel, by decide +kernel⟩
theorem o_P_border (X : K.In hp) (G : hp.Ns mainGlobals mg) (c : K9H.Sy K) : ∃ fd, FunD K K9H.d_P_border.name K9H.d_P_border.qual K9H.d_P_border.params K9H.d_P_border.body K9H.d_P_border.scope [] [] (He.ma K (He.ga K "Plat") "border") fd ∧ FnOk P w K mg base CX0 2 (He.ma K (He.ga K "Plat") "border") fd ["self", "first", "second"] (SpD (CT_P_border (He.ga K "Plat"))) := by
  obtain ⟨fd, F⟩ := c.def_ 24 (d := K9H.d_P_border) rfl
  have F : FunD K K9H.d_P_border.name K9H.d_P_border.qual K9H.d_P_border.params K9H.d_P_border.body K9H.d_P_border.scope [] [] _ fd := F
  have T := txt X G c
  have M_need_parcel := c_P_need_parcel (P := P) (w := w) (base := base) X G c
  have sc := sc_P_border
  refine ⟨fd, F, fnD (ps := ["self", "first", "second"]) F sc (CT_P_border (He.ga K "Plat")) ?_ ?_⟩
  case refine_1 => exact len_P_border
  refine fun cdv A outer s H E hr => ⟨_, (pss_cons (ps_expr (pe_mt M_need_parcel hr (by decide) (pv 0) (pa_cons (pv 1) pa_nil)))
  (pss_cons (ps_expr (pe_mt M_need_parcel hr (by decide) (pv 0) (pa_cons (pv 2) pa_nil)))
  (pss_one (ps_ret (pe_dget2 (hu_of hr) (pe_fld (pv 0) rfl) (pe_tup (pa_cons (pv 1) (pa_cons (pv 2) pa_nil))) pe_int ⟨rfl, rfl, rfl, rfl⟩))))), fun B Q rs R hC hgs k => ?_⟩
  obtain ⟨rows, road, a, b, hna, hnb, rfl, rfl⟩ := hC
  refine q_drop (ev_mt (ev_var rfl) (isIns_P (by decide +kernel)) (ea_cons (ev_var rfl) ea_nil) ⟨rows, road, a, hna, rfl, rfl⟩) ?_
  refine q_drop (ev_mt (ev_var rfl) (isIns_P (by decide +kernel)) (ea_cons (ev_var rfl) ea_nil) ⟨rows, road, b, hnb, rfl, rfl⟩) ?_
  refine n_plat (i := 0) rfl fun q hq => ?_
  exact w_ret (R := rInt (bord rows a b)) (ev_dget2 (k := [.inr a, .inr b]) (R := rInt (bord rows a b)) (ev_fld (ev_var rfl) iat_data T.cl T.a_own_borders rfl) (ev_tup (ea_cons (ev_var rfl) (ea_cons (ev_var rfl) ea_nil))) ev_c key_strs (fun _ => dat_data) (fun _ v M h => h) (fun hm v M h => by rw [show bord rows a b = 0 from hq.2 _ hm]; exact h)) k
theorem c_P_border (X : K.In hp) (G : hp.Ns mainGlobals mg) (c : K9H.Sy K) : Met P w K mg base 2 (He.ga K "Plat") "border" (SpD (CT_P_border (He.ga K "Plat"))) [] := by
  obtain ⟨fd, F, G1⟩ := o_P_border (P := P) (w := w) (base := base) X G c
  exact metD F (txt X G c).cl (He.meth_ok (c.fact 85 (f := .meth "Plat" "border") rfl)) (bindsD F fun _ _ _ _ _ _ us hl => match us, hl with | [_, _, _], _ => rfl) G1
theorem eqv_all {α : Type} {g : α → PyData} (h : ∀ x, PyData.eqv (g x) (g x) = true) : ∀ xs : List α, PyData.eqvAll (xs.map g) (xs.map g) = true
  | [] => rfl
  | x :: xs => by
    show PyData.eqvAll (g x :: xs.map g) (g x :: xs.map g) = true
    rw [PyData.eqvAll, h x, eqv_all h xs]
    rfl
theorem eqv_list {α : Type} {g : α → PyData} (h : ∀ x, PyData.eqv (g x) (g x) = true) (xs : List α) : PyData.eqv (.list (xs.map g)) (.list (xs.map g)) = true := by
  rw [PyData.eqv]
  exact eqv_all h xs
theorem eqv_Cs (cs : List Cell) : PyData.eqv (pyCs cs) (pyCs cs) = true := eqv_list (fun c => by rw [eqv_C]; exact decide_eq_true rfl) cs
theorem eqv_Ss (ss : List Str) : PyData.eqv (pySs ss) (pySs ss) = true := eqv_list (fun c => by rw [eqv_str]; exact decide_eq_true rfl) ss
theorem eqv_Rs (rows : Rows) : PyData.eqv (pyRs rows) (pyRs rows) = true := eqv_list eqv_Ss rows
theorem ev_isP {b : Option Addr} {hs : Hs} {es : Es} {ta : TE} {C : Addr} {rf : List (Str × Rep)} (ha : EV b hs es ta (rOf (hI C rf))) : EV b hs es (tCB (rIsC C) (tCons ta (tCons (tC (.ref C)) tNil))) (rBl true) := ev_cb (ea_cons ha (ea_cons ev_c ea_nil)) fun S H vs k ho al Q q => by
  obtain ⟨x, y, rfl, hx, hy⟩ := all_2 al
  obtain ⟨a, dx, fs, e, hh, _⟩ := iat_data (b := b) (hs := []) S H x (fun z hz => by cases hz) hx
  have hy : y = .ref C := hy
  subst hy e
  exact ⟨a, dx, fs, rfl, hh, q _ H (Fr.refl k) rfl⟩
theorem shape_Rs {rows : Rows} (g : Good rows) : SeqAt.shaped (pyRs rows) = true := (shp_Rs rows fun r hr z hz => word_ok (g.wd r hr z hz)).ok (by decide)
def CT_P_eq (C : Addr) : Option Addr → List Rep → Rep → Prop := fun _ rs R => ∃ rows road, Good rows ∧ rs = [rPlat C rows road, rPlat C rows road] ∧ R = rBl true
theorem len_P_eq {C : Addr} : ∀ b rs R, CT_P_eq C b rs R → rs.length = 2 := fun _ _ _ ⟨_, _, _, e, _⟩ => by rw [e]; rfl
theorem sc_P_eq : FnScope ["self", "other"] ["self", "other"] K9H.d_P_eq.scope := ⟨rfl, rfl, rfl, by decide +kernel, rfl, by decide +kernel, by decide +kernel⟩
theorem o_P_eq (X : K.In hp) (G : hp.Ns mainGlobals mg) (c : K9H.Sy K) : ∃ fd, FunD K K9H.d_P_eq.name K9H.d_P_eq.qual K9H.d_P_eq.params K9H.d_P_eq.body K9H.d_P_eq.scope [] [] (He.ma K (He.ga K "Plat") "__eq__") fd ∧ FnOk P w K mg base CX0 1 (He.ma K (He.ga K "Plat") "__eq__") fd ["self", "other"] (SpD (CT_P_eq (He.ga K "Plat"))) := by
  obtain ⟨fd, F⟩ := c.def_ 28 (d := K9H.d_P_eq) rfl
  have F : FunD K K9H.d_P_eq.name K9H.d_P_eq.qual K9H.d_P_eq.params K9H.d_P_eq.body K9H.d_P_eq.scope [] [] _ fd := F
  have T := txt X G c
  have sc := sc_P_eq
  refine ⟨fd, F, fnD (ps := ["self", "other"]) F sc (CT_P_eq (He.ga K "Plat")) ?_ ?_⟩
  case refine_1 => exact len_P_eq
  refine fun cdv A outer s H E hr => ⟨_, (pss_one (ps_ret (pe_and (pe_callB (id := "isinstance") (call_isCK T.isC) (by rfl) T.z_isinstance (by decide +kernel) (pa_cons (pv 1) (pa_cons (pe_gc (by rfl) T.g_Plat) pa_nil))) (pe_and (pe_cmpR (op_eqDK (K := K) (hu64_of hr) rfl) (pe_fld (pv 0) rfl) (pe_fld (pv 1) rfl) (nomark _)) (pe_one (pe_cmpR (op_eqDK (K := K) (hu64_of hr) rfl) (pe_fld (pv 0) rfl) (pe_fld (pv 1) rfl) (nomark _))))))), fun B Q rs R hC hgs k => ?_⟩
  obtain ⟨rows, road, g, rfl, rfl⟩ := hC
  refine n_plat (i := 0) rfl fun q hq => n_plat (i := 1) rfl fun q2 hq2 => ?_
  exact w_ret (R := rBl true) (ev_andV (c := true) (d := true) (ev_isP (ev_var rfl)) fun _ => ev_andV (c := true) (d := true) (ev_bl (ev_opV (ev_fld (ev_var rfl) iat_data T.cl T.a_own_rows rfl) (ev_fld (ev_var rfl) iat_data T.cl T.a_own_rows rfl) (rv_eqD dp_Rs dp_Rs (shape_Rs g) (shape_Rs g))) (eqv_Rs rows)) fun _ => (ev_bl (ev_opV (ev_fld (ev_var rfl) iat_data T.cl T.a_own_road rfl) (ev_fld (ev_var rfl) iat_data T.cl T.a_own_road rfl) (rv_eqD dp_Cs dp_Cs ((shp_Cs road).ok (by decide)) ((shp_Cs road).ok (by decide)))) (eqv_Cs road))) k
theorem c_P_eq (X : K.In hp) (G : hp.Ns mainGlobals mg) (c : K9H.Sy K) : Met P w K mg base 1 (He.ga K "Plat") "__eq__" (SpD (CT_P_eq (He.ga K "Plat"))) [] := by
  obtain ⟨fd, F, G1⟩ := o_P_eq (P := P) (w := w) (base := base) X G c
  exact metD F (txt X G c).cl (He.meth_ok (c.fact 89 (f := .meth "Plat" "__eq__") rfl)) (bindsD F fun _ _ _ _ _ _ us hl => match us, hl with | [_, _], _ => rfl) G1

end
end K9W
end
section
set_option Elab.async false
set_option linter.all false
set_option maxRecDepth 100000
set_option maxHeartbeats 4000000
namespace K9W
open PySem PySem.Spec PyProof.Rows L2 L2.K9R L2.K9A K9 K9M
open RZ (pi_zipA)
open C8 (Cal Met pe_c pe_mt pe_mt0 InsC call_isC pe_gc)
section
variable {P : Program} {w : World} {K : PySem.W.Frag} {hp : Heap} {mg : Str → Option Value} {base : Heap}

theorem anew_len (rows : Rows) (cs : List Cell) (n : Str) : (anew rows cs n).length = rows.length := by
  unfold anew
  rw [List.length_map, List.length_range]
theorem anew_row {rows : Rows} {cs : List Cell} {n : Str} {i : Nat} (hi : i < rows.length) : (anew rows cs n)[i]? = some ((List.range (wid rows)).map fun (j : Nat) => if ((i : Int), (j : Int)) ∈ cs then n else atR rows ((i : Int), (j : Int))) := by
  unfold anew
  rw [List.getElem?_map, List.getElem?_range hi]
  rfl
theorem rows_ext {rows : Rows} (s : Shape rows) {f : Nat → Nat → Str} (h : ∀ i j, i < rows.length → j < wid rows → atR rows ((i : Int), (j : Int)) = f i j) : rows = (List.range rows.length).map fun (i : Nat) => (List.range (wid rows)).map fun (j : Nat) => f i j := by
  apply List.ext_getElem?
  intro i
  by_cases hi : i < rows.length
  · rw [List.getElem?_map, List.getElem?_range hi, List.getElem?_eq_getElem hi]
    show some _ = some _
    congr 1
    apply List.ext_getElem?
    intro j
    have hr := s.rect _ (List.getElem_mem hi)
    by_cases hj : j < wid rows
    · obtain ⟨r, h1, _, h3⟩ := s.at_ hi hj
      rw [List.getElem?_eq_getElem hi] at h1
      cases h1
      rw [h3, List.getElem?_map, List.getElem?_range hj, h i j hi hj]
      rfl
    · rw [List.getElem?_eq_none (by omega), List.getElem?_eq_none (by rw [List.length_map, List.length_range]; omega)]
  · rw [List.getElem?_eq_none (by omega), List.getElem?_eq_none (by rw [List.length_map, List.length_range]; omega)]
theorem anew_nil {rows : Rows} (s : Shape rows) (n : Str) : anew rows [] n = rows := by
  rw [rows_ext s (f := fun i j => atR rows ((i : Int), (j : Int))) fun _ _ _ _ => rfl]
  conv => rhs; rw [rows_ext s (f := fun i j => atR rows ((i : Int), (j : Int))) fun _ _ _ _ => rfl]
  rw [← rows_ext s (f := fun i j => atR rows ((i : Int), (j : Int))) fun _ _ _ _ => rfl]
  unfold anew
  simp
theorem unite_rows {rows : Rows} (s : Shape rows) {a b : Str} : rows.map (fun r => r.map fun z => if z = b then a else z) = anew rows (cellsOf rows b) a := by
  apply List.ext_getElem?
  intro i
  by_cases hi : i < rows.length
  · rw [anew_row hi, List.getElem?_map, List.getElem?_eq_getElem hi]
    show some _ = some _
    congr 1
    apply List.ext_getElem?
    intro j
    have hr := s.rect _ (List.getElem_mem hi)
    by_cases hj : j < wid rows
    · obtain ⟨r, h1, _, h3⟩ := s.at_ hi hj
      rw [List.getElem?_eq_getElem hi] at h1
      cases h1
      rw [List.getElem?_map, h3, List.getElem?_map, List.getElem?_range hj]
      show some _ = some _
      congr 1
      show (if atR rows ((i : Int), (j : Int)) = b then a else atR rows ((i : Int), (j : Int))) = if ((i : Int), (j : Int)) ∈ cellsOf rows b then a else atR rows ((i : Int), (j : Int))
      by_cases e : atR rows ((i : Int), (j : Int)) = b
      · rw [if_pos e, if_pos (mem_cellsOf.mpr ⟨mem_allC.mpr ⟨i, j, rfl, hi, hj⟩, e⟩)]
      · rw [if_neg e, if_neg fun q => e (mem_cellsOf.mp q).2]
    · rw [List.getElem?_eq_none (by rw [List.length_map]; omega), List.getElem?_eq_none (by rw [List.length_map, List.length_range]; omega)]
  · rw [List.getElem?_eq_none (by rw [List.length_map]; omega), List.getElem?_eq_none (by rw [anew_len]; omega)]
theorem plat_up {C : Addr} {rows : Rows} {road : List Cell} {q : PX} (hq : PQ rows q) : ∀ v M, (rOf (hI C (fPlat rows road q))).P v M → (rPlat C rows road).P v M := fun v M ⟨a, o, e, h, z⟩ => ⟨a, o, e, h, q, hq, z⟩
def g_P_united {α : Type} (us ws : List α) : List α := match us, ws with
  | [s], [b, a] => [s, a, b]
  | _, _ => []
theorem g_P_united_rel {vs : List V} {us : List Value} {zs : List V} {ws : List Value} (h1 : Vals vs us) (h2 : Vals zs ws) : Vals (g_P_united vs zs) (g_P_united us ws) := by
  cases h1 with
  | nil => exact .nil
  | cons r t =>
    cases t with
    | cons _ _ => exact .nil
    | nil =>
      cases h2 with
      | nil => exact .nil
      | cons r1 t =>
        cases t with
        | nil => exact .nil
        | cons r2 t =>
          cases t with
          | nil => exact .cons r (.cons r2 (.cons r1 .nil))
          | cons _ _ => exact .nil
theorem g_P_united_cases {α : Type} {us ws : List α} (h : (g_P_united us ws).length = 3) : ∃ s b a, us = [s] ∧ ws = [b, a] := by
  unfold g_P_united at h
  split at h
  · exact ⟨_, _, _, rfl, rfl⟩
  · cases h
def CT_P_united (C : Addr) : Option Addr → List Rep → Rep → Prop := fun _ rs R => ∃ rows road a b, PlatOk rows road ∧ InR rows a ∧ InR rows b ∧ bord rows a b ≠ 0 ∧ PlatOk (anew rows (cellsOf rows b) a) road ∧ rs = [rPlat C rows road, rStr a, rStr b] ∧ R = rPlat C (anew rows (cellsOf rows b) a) road
theorem len_P_united {C : Addr} : ∀ b rs R, CT_P_united C b rs R → rs.length = 3 := fun _ _ _ ⟨_, _, _, _, _, _, _, _, _, e, _⟩ => by rw [e]; rfl
theorem sc_P_united : FnScope ["self", "first", "second", "rows", "name", "row"] ["self", "first", "second"] K9H.d_P_united.scope := ⟨rfl, rfl, rfl, by decide +kernel, rfl, by decide +kernel, by decide +kernel⟩
theorem o_P_united (X : K.In hp) (G : hp.Ns mainGlobals mg) (c : K9H.Sy K) : ∃ fd, FunD K K9H.d_P_united.name K9H.d_P_united.qual K9H.d_P_united.params K9H.d_P_united.body K9H.d_P_united.scope [] [] (He.ma K (He.ga K "Plat") "united") fd ∧ FnOk P w K mg base CX0 11 (He.ma K (He.ga K "Plat") "united") fd ["self", "first", "second"] (SpD (CT_P_united (He.ga K "Plat"))) := by
  obtain ⟨fd, F⟩ := c.def_ 26 (d := K9H.d_P_united) rfl
  have F : FunD K K9H.d_P_united.name K9H.d_P_united.qual K9H.d_P_united.params K9H.d_P_united.body K9H.d_P_united.scope [] [] _ fd := F
  have T := txt X G c
  have M_border := c_P_border (P := P) (w := w) (base := base) X G c
  have M_init := c_P_init (P := P) (w := w) (base := base) X G c
  have sc := sc_P_united
  refine ⟨fd, F, fnD (ps := ["self", "first", "second"]) F sc (CT_P_united (He.ga K "Plat")) ?_ ?_⟩
  case refine_1 => exact len_P_united
  refine fun cdv A outer s H E hr => ⟨_, (pss_cons (ps_if (pt_cmpR op_eq (pe_mt M_border hr (by decide) (pv 0) (pa_cons (pv 1) (pa_cons (pv 2) pa_nil))) pe_int (nomark _))
  (pss_one ps_never)
  pss_nil)
  (pss_cons (ps_setLc (i := 3) (own := [("row", 5)]) rfl sc.nd rfl rfl (sw_true rfl rfl rfl (by decide +kernel)) (pi_listK (K := K) rfl (pe_fld (pv 0) rfl)) (blkOk_by (by kernel_rfl)) (fun _ _ _ _ _ => (pg_name (i := 5) sc.nd rfl (by first | exact Or.inl rfl | exact Or.inr rfl))) (fun _ _ _ _ _ => pts_nil) (fun _ _ _ _ _ => (pe_lc (own := [("name", 4)]) rfl sc.nd (pi_listK (K := K) rfl (pv 5)) (blkOk_by (by kernel_rfl)) (fun _ _ _ _ _ => (pg_name (i := 4) sc.nd rfl (by first | exact Or.inl rfl | exact Or.inr rfl))) (fun _ _ _ _ _ => pts_nil) (fun _ _ _ _ _ => (pe_ifExp (pt_cmpR op_eq (pv 4) (pv 2) (nomark _)) (pv 1) (pv 4))))))
  (pss_one (ps_ret (pe_mkP M_init hr (by decide) (by rfl) (pa_cons (pv 3) pa_nil) (pk_cons (pe_fld (pv 0) rfl) pk_nil)))))), fun B Q rs R hC hgs k => ?_⟩
  obtain ⟨rows, road, a, b, ok, hna, hnb, hbo, ok2, rfl, rfl⟩ := hC
  have s := ok.good.sh
  have h12 := s.h12
  have w12 := s.w12
  refine q_no (et_to (et_test (ev_opV (ev_mt (ev_var rfl) (isIns_P (by decide +kernel)) (ea_cons (ev_var rfl) (ea_cons (ev_var rfl) ea_nil)) ⟨rows, road, a, b, hna, hnb, rfl, rfl⟩) ev_c (rv_eq rfl))) ?_) ?_
  · exact decide_eq_false fun e => hbo (by injection e with e; omega)
  refine n_plat (i := 0) rfl fun q hq => ?_
  refine q_asg (R := rRows (anew rows (cellsOf rows b) a)) (ev_to (en_lcA rows (fun r => rStrs (r.map fun z => if z = b then a else z)) (src_list (ev_fld (ev_var rfl) iat_data T.cl T.a_own_rows rfl)) (fun _ _ => gt_name) (fun _ h => h) (by omega) (fun r hr => ?_)).ev ?_) ?_
  · refine ev_to (en_lcA r (fun z => rStr (if z = b then a else z)) (src_list (ev_var rfl)) (fun _ _ => gt_name) (fun _ h => h) (by have := s.rect r hr; omega) (fun z hz => ?_)).ev ?_
    · refine ev_if (c := decide (z = b)) (et_to (et_test (ev_opV (ev_var rfl) (ev_var rfl) (rv_eq rfl))) (by rw [decide_eq_decide]; exact ⟨fun e => by injection e, fun e => by rw [e]⟩)) (fun h => ?_) (fun h => ?_)
      · rw [if_pos (of_decide_eq_true h)]
        exact ev_var rfl
      · rw [if_neg (of_decide_eq_false h)]
        exact ev_var rfl
    · show rL _ = rL _
      rw [List.map_map]
      rfl
  · show rL _ = rL _
    rw [← unite_rows s, List.map_map]
    rfl
  exact w_ret (R := rPlat (He.ga K "Plat") (anew rows (cellsOf rows b) a) road) (en_make (Ra := [rRows (anew rows (cellsOf rows b) a)]) (Rk := [rCells road]) (ea_cons (ev_var rfl) ea_nil) (ea_cons (ev_fld (ev_var rfl) iat_data T.cl T.a_own_road rfl) ea_nil) rfl rfl (fun x vs zs M h1 h2 => ⟨vs ++ zs, rfl, All2.app h2 h1⟩) ⟨_, road, ok2, rfl, rfl⟩).ev k
theorem c_P_united (X : K.In hp) (G : hp.Ns mainGlobals mg) (c : K9H.Sy K) : Met P w K mg base 11 (He.ga K "Plat") "united" (SpD (CT_P_united (He.ga K "Plat"))) [] := by
  obtain ⟨fd, F, G1⟩ := o_P_united (P := P) (w := w) (base := base) X G c
  exact metD F (txt X G c).cl (He.meth_ok (c.fact 87 (f := .meth "Plat" "united") rfl)) (bindsD F fun _ _ _ _ _ _ us hl => match us, hl with | [_, _, _], _ => rfl) G1
theorem ck_P_united (X : K.In hp) (G : hp.Ns mainGlobals mg) (c : K9H.Sy K) : MetK P w K mg base 11 (He.ga K "Plat") "united" (SpD (CT_P_united (He.ga K "Plat"))) ["second", "first"] (fun vs zs => g_P_united vs zs) := by
  obtain ⟨fd, F, G1⟩ := o_P_united (P := P) (w := w) (base := base) X G c
  refine ⟨_, fd, ["self", "first", "second"], _, (txt X G c).cl, He.meth_ok (c.fact 87 (f := .meth "Plat" "united") rfl), G1, kbD F ["second", "first"] (fun us ws => g_P_united us ws) (fun r1 r2 => g_P_united_rel r1 r2) fun _ _ _ _ _ _ us ws h => ?_⟩
  obtain ⟨_, _, _, rfl, rfl⟩ := g_P_united_cases h
  rfl
theorem anew_put {rows : Rows} {cs : List Cell} {n : Str} {i j : Nat} (hi : i < rows.length) (hj : j < wid rows) (r : Nat) (hr : r < rows.length) : (anew rows (cs ++ [((i : Int), (j : Int))]) n).getD r [] = if r = i then ((anew rows cs n).getD i []).set j n else (anew rows cs n).getD r [] := by
  rw [List.getD_eq_getElem?_getD, List.getD_eq_getElem?_getD, List.getD_eq_getElem?_getD, anew_row hr, anew_row hr, anew_row hi]
  by_cases e : r = i
  · subst e
    rw [if_pos rfl]
    show List.map _ _ = (List.map _ _).set j n
    apply List.ext_getElem?
    intro k
    by_cases hk : k < wid rows
    · rw [List.getElem?_map, List.getElem?_range hk]
      show some (if ((r : Int), (k : Int)) ∈ cs ++ [((r : Int), (j : Int))] then n else atR rows ((r : Int), (k : Int))) = _
      by_cases e : j = k
      · subst e
        rw [List.getElem?_set_self (by rw [List.length_map, List.length_range]; exact hk), if_pos (List.mem_append_right _ List.mem_cons_self)]
      · rw [List.getElem?_set_ne e, List.getElem?_map, List.getElem?_range hk]
        show _ = some (if ((r : Int), (k : Int)) ∈ cs then n else atR rows ((r : Int), (k : Int)))
        have : ((r : Int), (k : Int)) ∈ cs ++ [((r : Int), (j : Int))] ↔ ((r : Int), (k : Int)) ∈ cs := by
          rw [List.mem_append, List.mem_singleton, Prod.mk.injEq]
          constructor
          · rintro (h | ⟨_, h⟩)
            · exact h
            · omega
          · exact .inl
        simp only [this]
    · rw [List.getElem?_eq_none (by rw [List.length_map, List.length_range]; omega), List.getElem?_eq_none (by rw [List.length_set, List.length_map, List.length_range]; omega)]
  · rw [if_neg e]
    show List.map _ _ = List.map _ _
    refine List.map_congr_left fun k hk => ?_
    have : ((r : Int), (k : Int)) ∈ cs ++ [((i : Int), (j : Int))] ↔ ((r : Int), (k : Int)) ∈ cs := by
      rw [List.mem_append, List.mem_singleton, Prod.mk.injEq]
      constructor
      · rintro (h | ⟨h, _⟩)
        · exact h
        · omega
      · exact .inl
    simp only [this]
theorem cells_ni {cs : List Cell} (hx : cs ≠ []) : ∀ (o : HO) (M : Hp) (xs : List Int), (hL (cs.map rCell)).P o M → o ≠ .lst (xs.map V.int) := by
  intro o M xs h e
  obtain ⟨vs, e2, al⟩ := h
  match cs, hx with
  | c :: cs, _ =>
    match vs, al with
    | v :: vs, al =>
      obtain ⟨a, ws, ev, _⟩ := al.1
      rw [e] at e2
      injection e2 with e2
      cases xs with
      | nil => cases e2
      | cons x xs =>
        injection e2 with e2 _
        rw [← e2] at ev
        cases ev
abbrev HotQ (cs : List Cell) (hs : Hs) (Rq : Rep) : Prop := (hs = [] ∧ QRep rCell cs Rq) ∨ ∃ p, hs = [(p, hL (cs.map rCell))] ∧ Rq = rAt p
theorem div_part {b : Option Addr} {hs : Hs} {Hc : Hp} {es : Es} {cs own : List Cell} {Rq : Rep} {E : XK} {ta tb : TE} (hq : HotQ cs hs Rq) (ne : cs ≠ []) (nd : cs.Nodup) (ndo : own.Nodup) (sub : ∀ c ∈ cs, c ∈ own ∧ okC c = true) (l1 : cs.length ≤ 1000) (l2 : own.length ≤ 1000)
    (h1 : EV b (hs.map fun x => (x.1, hEX Hc x)) es ta Rq) (h2 : EV b (hs.map fun x => (x.1, hEX Hc x)) es tb (rCells own)) : EV b (hs.map fun x => (x.1, hEX Hc x)) es (tCall (SpD CT_check_part) [] E (tCons ta (tCons tb tNil))) rNon := by
  rcases hq with ⟨rfl, hq⟩ | ⟨p, rfl, rfl⟩
  · exact ev_call (ea_cons h1 (ea_cons h2 ea_nil)) ⟨cs, own, Rq, hq, nd, ndo, sub, l1, l2, rfl, rfl⟩
  · exact ev_callP (p := p) (h := hL (cs.map rCell)) (h0 := hEX Hc (p, hL (cs.map rCell))) (Rs' := [rL (cs.map rCell), rCells own]) (ea_cons h1 (ea_cons h2 ea_nil)) List.mem_cons_self (fun o M q => q.2) ⟨.inr ⟨rfl, rfl⟩, .inl rfl, True.intro⟩ (cells_ni ne) flat_c ⟨cs, own, _, .inl rfl, nd, ndo, sub, l1, l2, rfl, rfl⟩
theorem div_taken {b : Option Addr} {hs : Hs} {Hc : Hp} {es : Es} {cs : List Cell} {Rq : Rep} {j : Nat} {ta : TE} (hq : HotQ cs hs Rq) (nd : cs.Nodup) (hl : cs.length ≤ 1000) (hex : ∀ x ∈ hs, ∃ o M, Hc x.1 = some o ∧ x.2.P o M) (hj : ∀ c : Cell, ((wipeE es [j]).set j (some (rCell c)))[j]? = some (some (rCell c)))
    (h1 : EV b (hs.map fun x => (x.1, hEX Hc x)) es ta Rq) : EN b (hs.map fun x => (x.1, hEX Hc x)) es (tDcT (iSeq K ta) (gName j) tYes (tVar j) (tC (.bl true)) [j]) (hSet cs) := by
  rcases hq with ⟨rfl, hq⟩ | ⟨p, rfl, rfl⟩
  · exact en_known nd hl (src_seqQ hq h1) hj
  · obtain ⟨o, M, ho, vs, eo, _⟩ := hex _ List.mem_cons_self
    subst eo
    exact en_dcTC (Cn := CnL p (cs.map rCell) vs) (F := rCell) cs ck (fun _ => rBl true) (fun S => src_seqH List.mem_cons_self ho h1) (fun S H hh => cnL List.mem_cons_self ho hh) (fun _ _ => gt_name) (fun _ h => h) (nd_ck nd) (by omega) (fun c _ => ⟨rCell c, ev_var (hj c), key_cell⟩) (fun c _ => ⟨rBl true, ev_c, fun v M h => h⟩)
abbrev restOf (rows : Rows) (n : Str) (cs : List Cell) : List Cell := (cellsOf rows n).filter fun c => !decide (c ∈ cs)
structure DivOk (rows : Rows) (road : List Cell) (n : Str) (cs : List Cell) (new : Str) : Prop where
  ok : PlatOk rows road
  hn : InR rows n
  wd : IsWord new
  fr : ¬ InR rows new
  few : ∀ ns, Names rows ns → ns.length < 12
  nd : cs.Nodup
  ne : cs ≠ []
  sub : ∀ c ∈ cs, c ∈ cellsOf rows n
  cn : Conn (· ∈ cs)
  rne : restOf rows n cs ≠ []
  rcn : Conn (· ∈ restOf rows n cs)
  ok2 : PlatOk (anew rows cs new) road
def g_P_divided {α : Type} (us ws : List α) : List α := match us, ws with
  | [s], [n, c, m] => [s, m, c, n]
  | _, _ => []
theorem g_P_divided_rel {vs : List V} {us : List Value} {zs : List V} {ws : List Value} (h1 : Vals vs us) (h2 : Vals zs ws) : Vals (g_P_divided vs zs) (g_P_divided us ws) := by
  cases h1 with
  | nil => exact .nil
  | cons r t =>
    cases t with
    | cons _ _ => exact .nil
    | nil =>
      cases h2 with
      | nil => exact .nil
      | cons r1 t =>
        cases t with
        | nil => exact .nil
        | cons r2 t =>
          cases t with
          | nil => exact .nil
          | cons r3 t =>
            cases t with
            | nil => exact .cons r (.cons r3 (.cons r2 (.cons r1 .nil)))
            | cons _ _ => exact .nil
theorem g_P_divided_cases {α : Type} {us ws : List α} (h : (g_P_divided us ws).length = 4) : ∃ s n c m, us = [s] ∧ ws = [n, c, m] := by
  unfold g_P_divided at h
  split at h
  · exact ⟨_, _, _, _, rfl, rfl⟩
  · cases h
def CT_P_divided (C : Addr) : Option Addr → Hs → List Rep → Rep → Prop := fun _ hs rs R => ∃ rows road n cs new Rq, DivOk rows road n cs new ∧ HotQ cs hs Rq ∧ rs = [rPlat C rows road, rStr n, Rq, rStr new] ∧ R = rPlat C (anew rows cs new) road
theorem len_P_divided {C : Addr} : ∀ b hs rs R, CT_P_divided C b hs rs R → rs.length = 4 := fun _ _ _ _ ⟨_, _, _, _, _, _, _, _, e, _⟩ => by rw [e]; rfl
theorem sc_P_divided : FnScope ["self", "name", "cells", "new", "taken", "rows", "row", "column", "cell"] ["self", "name", "cells", "new"] K9H.d_P_divided.scope := ⟨rfl, rfl, rfl, by decide +kernel, rfl, by decide +kernel, by decide +kernel⟩
theorem o_P_divided (X : K.In hp) (G : hp.Ns mainGlobals mg) (c : K9H.Sy K) : ∃ fd, FunD K K9H.d_P_divided.name K9H.d_P_divided.qual K9H.d_P_divided.params K9H.d_P_divided.body K9H.d_P_divided.scope [] [] (He.ma K (He.ga K "Plat") "divided") fd ∧ FnOk P w K mg base CX0 11 (He.ma K (He.ga K "Plat") "divided") fd ["self", "name", "cells", "new"] (SpH (CT_P_divided (He.ga K "Plat"))) := by
  obtain ⟨fd, F⟩ := c.def_ 25 (d := K9H.d_P_divided) rfl
  have F : FunD K K9H.d_P_divided.name K9H.d_P_divided.qual K9H.d_P_divided.params K9H.d_P_divided.body K9H.d_P_divided.scope [] [] _ fd := F
  have T := txt X G c
  have C_is_name := c_is_name (P := P) (w := w) (base := base) X G c
  have C_check_part := c_check_part (P := P) (w := w) (base := base) X G c
  have C_hangs_together := c_hangs_together (P := P) (w := w) (base := base) X G c
  have M_need_parcel := c_P_need_parcel (P := P) (w := w) (base := base) X G c
  have M_rows := c_P_rows (P := P) (w := w) (base := base) X G c
  have M_init := c_P_init (P := P) (w := w) (base := base) X G c
  have sc := sc_P_divided
  refine ⟨fd, F, fnH (ps := ["self", "name", "cells", "new"]) F sc (CT_P_divided (He.ga K "Plat")) ?_ ?_⟩
  case refine_1 => exact len_P_divided
  refine fun cdv A outer s H E hr => ⟨_, (pss_cons (ps_expr (pe_mt M_need_parcel hr (by decide) (pv 0) (pa_cons (pv 1) pa_nil)))
  (pss_cons (ps_if (pt_not (pt_val (pe_c C_is_name hr (by decide) (by rfl) (pa_cons (pv 3) pa_nil))))
  (pss_one ps_never)
  pss_nil)
  (pss_cons (ps_if (pt_cmp (pc_din (hu_of hr) (pv 3) (pe_fld (pv 0) rfl)))
  (pss_one ps_never)
  pss_nil)
  (pss_cons (ps_expr (pe_c C_check_part hr (by decide) (by rfl) (pa_cons (pv 2) (pa_cons (pe_dget (hu_of hr) (pe_fld (pv 0) rfl) (pv 1) (fun _ _ => rfl)) pa_nil))))
  (pss_cons (ps_if (pt_cmpR op_eq (pe_callB (id := "len") call_lenDK (by rfl) T.z_len (by decide +kernel) (pa_cons (pe_fld (pv 0) rfl) pa_nil)) (pe_gc (by rfl) T.g_MOST_PARCELS) (nomark _))
  (pss_one ps_never)
  pss_nil)
  (pss_cons (ps_asg (pe_dcT (hu_of hr) (own := [("cell", 8)]) rfl sc.nd (pi_seqK (K := K) rfl (pv 2)) (blkOk_by (by kernel_rfl)) (fun _ _ _ _ _ => (pg_name (i := 8) sc.nd rfl (by first | exact Or.inl rfl | exact Or.inr rfl))) (fun _ _ _ _ _ => pts_nil) (fun _ _ _ _ _ => (pv 8)) (fun _ _ _ _ _ => pe_bl)) (pg_name (i := 4) sc.nd rfl (by first | exact Or.inl rfl | exact Or.inr rfl)))
  (pss_cons (ps_if (pt_not (pt_val (pe_c C_hangs_together hr (by decide) (by rfl) (pa_cons (pe_callTy (T := "list") (call_listT rfl) (by rfl) T.z_list (by decide +kernel) (pa_cons (pv 4) pa_nil)) pa_nil))))
  (pss_one ps_never)
  pss_nil)
  (pss_cons (ps_if (pt_not (pt_val (pe_c C_hangs_together hr (by decide) (by rfl) (pa_cons (pe_lc (own := [("cell", 8)]) rfl sc.nd (pi_listK (K := K) rfl (pe_dget (hu_of hr) (pe_fld (pv 0) rfl) (pv 1) (fun _ _ => rfl))) (blkOk_by (by kernel_rfl)) (fun _ _ _ _ _ => (pg_name (i := 8) sc.nd rfl (by first | exact Or.inl rfl | exact Or.inr rfl))) (fun _ _ _ _ _ => (pts_one (pt_cmp (pc_dnotin (hu_of hr) (pv 8) (pv 4))))) (fun _ _ _ _ _ => (pv 8))) pa_nil))))
  (pss_one ps_never)
  pss_nil)
  (pss_cons (ps_set (i := 5) sc.nd rfl (by first | exact Or.inl rfl | exact Or.inr rfl) (pe_mt0 M_rows hr (by decide) (pv 0)))
  (pss_cons (ps_lock (ps_for PassesOwn.never rfl (pi_keys (pv 4)) (pg_tupK (K := K) (n := 2) rfl rfl (pgs_cons (pg_name (i := 6) sc.nd rfl (by first | exact Or.inl rfl | exact Or.inr rfl)) (pgs_cons (pg_name (i := 7) sc.nd rfl (by first | exact Or.inl rfl | exact Or.inr rfl)) pgs_nil)))
  (pss_one (ps_asg (pv 3) (pg_sub (pe_ix (ix_listK (K := K) rfl) (pv 5) (pv 6) (fun _ _ => rfl)) (pv 7) set_list (fun _ => rfl))))))
  (pss_one (ps_ret (pe_mkP M_init hr (by decide) (by rfl) (pa_cons (pv 5) pa_nil) (pk_cons (pe_fld (pv 0) rfl) pk_nil)))))))))))))), fun B S Hc Q hs rs R hC hgs nd hex fin k => ?_⟩
  obtain ⟨rows, road, n, cs, new, Rq, dv, hq, rfl, rfl⟩ := hC
  have ok := dv.ok
  have s := ok.good.sh
  have h12 := s.h12
  have w12 := s.w12
  have c144 := cells144 s n
  have own1 := nd_cellsOf rows n
  have lcs : cs.length ≤ 144 := Nat.le_trans (nd_len dv.nd dv.sub) c144
  have okown : ∀ c ∈ cellsOf rows n, okC c = true := fun c hc => okC_allC h12 w12 (mem_cellsOf.mp hc).1
  refine n_plat (i := 0) rfl fun q hq0 => ?_
  have up := plat_up (C := He.ga K "Plat") (road := road) hq0
  have hne : n ∈ q.1 := (hq0.1.mem n).mpr dv.hn
  have hkey : (Sum.inr n : Key) ∈ q.1.map Sum.inr := List.mem_map.mpr ⟨n, hne, rfl⟩
  refine q_drop (ev_mt (EV.up (ev_var rfl) up) (isIns_P (by decide +kernel)) (ea_cons (ev_var rfl) ea_nil) ⟨rows, road, n, dv.hn, rfl, rfl⟩) ?_
  refine q_no (et_to (et_not (et_B (ev_call (ea_cons (ev_var rfl) ea_nil) ⟨new, dv.wd, rfl, rfl⟩))) rfl) ?_
  refine q_no (et_to (et_B (ev_dkin (k := .inr new) (ev_var rfl) (ev_fld (ev_var rfl) iat_data T.cl T.a_own_cells rfl) (fun _ => dkat_data))) ?_) ?_
  · refine decide_eq_false fun z => ?_
    obtain ⟨m, hm, e⟩ := List.mem_map.mp z
    injection e with e
    subst e
    exact dv.fr ((hq0.1.mem m).mp hm)
  refine q_drop (div_part (es := _) hq dv.ne dv.nd own1 (fun c hc => ⟨dv.sub c hc, okown c (dv.sub c hc)⟩) (by omega) (by omega) (ev_var rfl) (ev_dkget (f := rParc rows) (k := .inr n) (ev_fld (ev_var rfl) iat_data T.cl T.a_own_cells rfl) (ev_var rfl) (fun _ => dkat_data) hkey)) ?_
  refine q_no (et_to (et_test (ev_opV (ev_lenDK (ev_fld (ev_var rfl) iat_data T.cl T.a_own_cells rfl) (fun _ => dkat_data)) ev_c (rv_eq rfl))) ?_) ?_
  · refine decide_eq_false fun e => ?_
    injection e with e
    have := dv.few _ hq0.1
    rw [List.length_map] at e
    omega
  refine q_new (div_taken hq dv.nd (by omega) hex (fun _ => rfl) (ev_var rfl)) fun t => ?_
  refine q_no (et_to (et_not (et_B (ev_call (ea_cons (ev_to (en_listT (f := fun _ => rBl true) (kr := fun k => rCell (unck k)) (ev_var rfl) (fun S => dat_hot List.mem_cons_self) (fun k q M hk h => cell_of_key k q M hk h)).ev (by rw [map_unck])) ea_nil) ⟨cs, dv.nd, dv.ne, dv.cn, fun c hc => okown c (dv.sub c hc), by omega, rfl, rfl⟩))) rfl) ?_
  refine q_no (et_to (et_not (et_B (ev_call (ea_cons (en_lc (cellsOf rows n) (fun c => !decide (c ∈ cs)) rCell (src_list (ev_dkget (f := rParc rows) (k := .inr n) (ev_fld (ev_var rfl) iat_data T.cl T.a_own_cells rfl) (ev_var rfl) (fun _ => dkat_data) hkey)) (fun _ _ => gt_name) (fun _ h => h) (by omega) (fun c _ => et_to (et_B (ev_dnotin (ks := cs.map ck) (f := fun _ => rBl true) (ev_var rfl) (ev_var rfl) key_cell (fun S => dat_hot List.mem_cons_self))) (congrArg not ck_dec)) (fun c _ _ => ev_var rfl)).ev ea_nil) ⟨restOf rows n cs, own1.filter _, dv.rne, dv.rcn, fun c hc => okown c (List.mem_filter.mp hc).1, by have := List.length_filter_le (fun c => !decide (c ∈ cs)) (cellsOf rows n); show (List.filter _ _).length ≤ 1000; omega, rfl, rfl⟩))) rfl) ?_
  refine q_mtM (EV.up (ev_var rfl) up) (isIns_P (by decide +kernel)) ea_nil ⟨rows, road, s, rfl, rfl⟩ fun p hn hG => ?_
  obtain ⟨ad, rfl⟩ := hG
  refine q_lock (n := (nestF ad (rowH rows) rows.length ++ [(p, hL ((List.range rows.length).map fun i => rAt (ad i)))]).length) (p := t) (h := hSet cs) at_mid mut_dT fun od u => ?_
  rw [set_mid]
  refine w_forC (ys := cs) (F := rCell) (Cn := CnZ t od u) ?_ (fun (i : Nat) (m : Nat) => m = i) (fun m => nestF ad (rowH (anew rows (cs.take m) new)) rows.length ++ [(p, hL ((List.range rows.length).map fun i => rAt (ad i)))] ++ (t, hFz od u (hSet cs)) :: (hs.map fun x => (x.1, hEX Hc x))) (fun _ => [some (rOf (hI (He.ga K "Plat") (fPlat rows road q))), some (rStr n), some Rq, some (rStr new), some (rAt t), some (rAt p), none, none, none]) 0 rfl ?_ (by exact ⟨rfl, rfl, rfl, rfl, rfl, rfl, True.intro⟩) (fun _ _ => gt_tup2 gt_name gt_name) (fun m S H ho => cnZ (List.mem_append_right _ List.mem_cons_self) ho) ?_ ?_
  · rw [← map_unck]
    exact src_keysT (List.mem_append_right _ List.mem_cons_self) (ev_var rfl) (fun k q M hk h => cell_of_key k q M hk h)
  · rw [List.take_zero, anew_nil s]
  · rintro i c m hc rfl
    have hcm := dv.sub c (List.mem_of_getElem? hc)
    obtain ⟨r, j, rfl, hr, hj⟩ := mem_allC.mp (mem_cellsOf.mp hcm).1
    have hrow : ((anew rows (cs.take m) new).getD r []).length = wid rows := by
      rw [List.getD_eq_getElem?_getD, anew_row hr]
      show (List.map _ _).length = _
      rw [List.length_map, List.length_range]
    refine w_setL (p := ad r) (n := r) (j := j) (rs := ((anew rows (cs.take m) new).getD r []).map rStr) (R := rStr new) ?_ (ev_var rfl) (ev_ib (p := p) (rs := (List.range rows.length).map fun i => rAt (ad i)) (j := r) (List.mem_append_left _ (List.mem_append_right _ List.mem_cons_self)) (ev_var rfl) (ev_var rfl) (by rw [List.getElem?_map, List.getElem?_range hr]; rfl)) (ev_var rfl) (by rw [List.length_map, hrow]; exact hj) ?_
    · rw [List.append_assoc]
      exact nestF_at hr
    · dsimp only
      refine n_inv (m + 1) rfl ?_ (by exact ⟨rfl, rfl, rfl, rfl, rfl, rfl, True.intro⟩)
      rw [List.append_assoc, nestF_set hr, List.append_assoc]
      congr 1
      refine nestF_congr fun i hi => ⟨rfl, ?_⟩
      unfold rowH
      rw [take_snoc hc, anew_put hr hj i hi]
      by_cases e : i = r
      · subst e
        rw [if_pos rfl, if_pos rfl, List.map_set]
      · rw [if_neg e, if_neg e]
  · rintro m rfl
    refine n_unlock (n := (nestF ad (rowH (anew rows (cs.take cs.length) new)) rows.length ++ [(p, hL ((List.range rows.length).map fun i => rAt (ad i)))]).length) (p := t) (h := hSet cs) at_mid ?_
    rw [set_mid, List.append_assoc]
    refine n_coolL (i := 5) (rr := fun j => rStrs ((anew rows (cs.take cs.length) new).getD j [])) rfl (fun j hj v M h => h) ?_
    have e : (List.range rows.length).map (fun j => rStrs ((anew rows (cs.take cs.length) new).getD j [])) = (anew rows cs new).map rStrs := by
      rw [List.take_length]
      apply List.ext_getElem?
      intro i
      rw [List.getElem?_map, List.getElem?_map]
      by_cases hi : i < rows.length
      · rw [List.getElem?_range hi, List.getElem?_eq_getElem (l := anew rows cs new) (by rw [anew_len]; exact hi)]
        show some (rStrs ((anew rows cs new).getD i [])) = some _
        rw [List.getD_eq_getElem?_getD, List.getElem?_eq_getElem (l := anew rows cs new) (by rw [anew_len]; exact hi)]
        rfl
      · rw [List.getElem?_eq_none (by rw [List.length_range]; omega), List.getElem?_eq_none (by rw [anew_len]; omega)]
        rfl
    rw [e]
    exact w_retG (S := S) (Hc := Hc) (fun σ H' st => fin _ σ H' _ (fun x hx => List.mem_cons_of_mem _ (List.mem_map.mpr ⟨x, hx, rfl⟩)) st) (en_make (Ra := [rRows (anew rows cs new)]) (Rk := [rCells road]) (ea_cons (ev_var rfl) ea_nil) (ea_cons (ev_fld (ev_var rfl) iat_data T.cl T.a_own_road rfl) ea_nil) rfl rfl (fun x vs zs M h1 h2 => ⟨vs ++ zs, rfl, All2.app h2 h1⟩) ⟨_, road, dv.ok2, rfl, rfl⟩).ev k
theorem c_P_divided (X : K.In hp) (G : hp.Ns mainGlobals mg) (c : K9H.Sy K) : Met P w K mg base 11 (He.ga K "Plat") "divided" (SpH (CT_P_divided (He.ga K "Plat"))) [] := by
  obtain ⟨fd, F, G1⟩ := o_P_divided (P := P) (w := w) (base := base) X G c
  exact metD F (txt X G c).cl (He.meth_ok (c.fact 86 (f := .meth "Plat" "divided") rfl)) (bindsD F fun _ _ _ _ _ _ us hl => match us, hl with | [_, _, _, _], _ => rfl) G1
theorem ck_P_divided (X : K.In hp) (G : hp.Ns mainGlobals mg) (c : K9H.Sy K) : MetK P w K mg base 11 (He.ga K "Plat") "divided" (SpH (CT_P_divided (He.ga K "Plat"))) ["new", "cells", "name"] (fun vs zs => g_P_divided vs zs) := by
  obtain ⟨fd, F, G1⟩ := o_P_divided (P := P) (w := w) (base := base) X G c
  refine ⟨_, fd, ["self", "name", "cells", "new"], _, (txt X G c).cl, He.meth_ok (c.fact 86 (f := .meth "Plat" "divided") rfl), G1, kbD F ["new", "cells", "name"] (fun us ws => g_P_divided us ws) (fun r1 r2 => g_P_divided_rel r1 r2) fun _ _ _ _ _ _ us ws h => ?_⟩
  obtain ⟨_, _, _, _, rfl, rfl⟩ := g_P_divided_cases h
  rfl

end
end K9W
end
section
set_option Elab.async false
set_option linter.all false
set_option maxRecDepth 100000
set_option maxHeartbeats 4000000
namespace K9W
open PySem PySem.Spec PyProof.Rows L2 L2.K9R L2.K9A K9 K9M
/-! ### plain: the names -/
theorem str_ext {x y : Str} (h : x.cps.toList = y.cps.toList) : x = y := by
  cases x with
  | mk a =>
    cases y with
    | mk b =>
      congr 1
      exact Array.toList_inj.mp h
theorem rising_all : ∀ (p : Str) (l : List Str), risingS p l = true → ∀ x ∈ l, p.cps.toList ≤ x.cps.toList
  | _, [], _, _, hx => by cases hx
  | p, y :: r, h, x, hx => by
    have h : (!ltCps y.cps.toList p.cps.toList && risingS y r) = true := h
    rw [Bool.and_eq_true, Bool.not_eq_true', ltCps_eq, decide_eq_false_iff_not, List.not_lt] at h
    rcases List.mem_cons.mp hx with rfl | hx
    · exact h.1
    · exact List.le_trans h.1 (rising_all y r h.2 x hx)
theorem rising_tail {x : Str} {l : List Str} (h : sortedS (x :: l) = true) : sortedS l = true := by
  cases l with
  | nil => rfl
  | cons y r =>
    have h : (!ltCps y.cps.toList x.cps.toList && risingS y r) = true := h
    rw [Bool.and_eq_true] at h
    exact h.2
theorem srtS_uniq : ∀ {cs ds : List Str}, sortedS cs = true → sortedS ds = true → cs.Perm ds → cs = ds
  | [], ds, _, _, p => (List.Perm.eq_nil p.symm).symm
  | c :: cs, [], _, _, p => absurd p.length_eq (by simp)
  | c :: cs, d :: ds, h1, h2, p => by
    have e : c = d := by
      have hc : c ∈ d :: ds := p.mem_iff.mp List.mem_cons_self
      have hd : d ∈ c :: cs := p.mem_iff.mpr List.mem_cons_self
      rcases List.mem_cons.mp hc with e | hc
      · exact e
      rcases List.mem_cons.mp hd with e | hd
      · exact e.symm
      · exact str_ext (List.le_antisymm (rising_all c cs h1 d hd) (rising_all d ds h2 c hc))
    subst e
    rw [srtS_uniq (rising_tail h1) (rising_tail h2) p.cons_inv]
theorem nd_perm {α : Type} {xs ys : List α} (h1 : xs.Nodup) (h2 : ys.Nodup) (h : ∀ x, x ∈ xs ↔ x ∈ ys) : xs.Perm ys := (List.perm_ext_iff_of_nodup h1 h2).mpr h
theorem Names.uniq {rows : Rows} {xs ys : List Str} (h1 : Names rows xs) (h2 : Names rows ys) : xs = ys :=
  srtS_uniq h1.srt h2.srt (nd_perm h1.nd h2.nd fun x => (h1.mem x).trans (h2.mem x).symm)
/-! ### plain: rows as a function of the cells -/
theorem anew_tab (rows : Rows) (cs : List Cell) (n : Str) : anew rows cs n = tab rows.length (wid rows) fun c => if c ∈ cs then n else atR rows c := rfl
theorem rows_tab {rows : Rows} (s : Shape rows) : rows = tab rows.length (wid rows) (atR rows) := rows_ext s (f := fun i j => atR rows ((i : Int), (j : Int))) fun _ _ _ _ => rfl
theorem tab_congr {h w : Nat} {f g : Cell → Str} (e : ∀ c ∈ allC h w, f c = g c) : tab h w f = tab h w g := by
  unfold tab
  refine List.map_congr_left fun i hi => List.map_congr_left fun j hj => ?_
  exact e _ (mem_allC.mpr ⟨i, j, rfl, List.mem_range.mp hi, List.mem_range.mp hj⟩)
theorem inR_iff {rows : Rows} (s : Shape rows) {n : Str} : InR rows n ↔ ∃ c ∈ allC rows.length (wid rows), atR rows c = n := by
  conv => lhs; rw [rows_tab s]
  exact mem_tab
theorem anew_wid {rows : Rows} (s : Shape rows) (cs : List Cell) (n : Str) : wid (anew rows cs n) = wid rows := by rw [anew_tab]; exact tab_wid s.h1
theorem anew_shape {rows : Rows} (s : Shape rows) (cs : List Cell) (n : Str) : Shape (anew rows cs n) := by rw [anew_tab]; exact tab_shape s.h1 s.h12 s.w1 s.w12
theorem anew_at {rows : Rows} {cs : List Cell} {n : Str} {c : Cell} (hc : c ∈ allC rows.length (wid rows)) : atR (anew rows cs n) c = if c ∈ cs then n else atR rows c := tab_at (f := fun c => if c ∈ cs then n else atR rows c) hc
theorem anew_all {rows : Rows} (s : Shape rows) (cs : List Cell) (n : Str) : allC (anew rows cs n).length (wid (anew rows cs n)) = allC rows.length (wid rows) := by rw [anew_len, anew_wid s]
theorem anew_inR {rows : Rows} {cs : List Cell} {n z : Str} : InR (anew rows cs n) z ↔ ∃ c ∈ allC rows.length (wid rows), (if c ∈ cs then n else atR rows c) = z := by rw [anew_tab]; exact mem_tab
theorem anew_good {rows : Rows} (g : Good rows) {cs : List Cell} {n : Str} (hn : IsWord n) : Good (anew rows cs n) := by
  refine ⟨anew_shape g.sh cs n, fun r hr z hz => ?_⟩
  obtain ⟨c, hc, e⟩ := anew_inR.mp ⟨r, hr, hz⟩
  by_cases h : c ∈ cs
  · rw [if_pos h] at e
    rw [← e]
    exact hn
  · rw [if_neg h] at e
    obtain ⟨r', hr', hz'⟩ := (inR_iff g.sh).mpr ⟨c, hc, e⟩
    exact g.wd r' hr' z hz'
theorem anew_anew {rows : Rows} (s : Shape rows) {cs ds : List Cell} {n m : Str} {f : Cell → Str} (h : ∀ c ∈ allC rows.length (wid rows), (if c ∈ ds then m else if c ∈ cs then n else atR rows c) = f c) : anew (anew rows cs n) ds m = tab rows.length (wid rows) f := by
  rw [anew_tab (anew rows cs n), anew_len, anew_wid s]
  exact tab_congr fun c hc => by rw [anew_at hc]; exact h c hc
theorem anew_perm {rows : Rows} {cs ds : List Cell} {n : Str} (h : ∀ c, c ∈ cs ↔ c ∈ ds) : anew rows cs n = anew rows ds n := by
  rw [anew_tab, anew_tab]
  refine tab_congr fun c _ => ?_
  simp only [h c]
theorem mem_cells {rows : Rows} {cs : List Cell} {n z : Str} {c : Cell} (s : Shape rows) : c ∈ cellsOf (anew rows cs n) z ↔ c ∈ allC rows.length (wid rows) ∧ (if c ∈ cs then n else atR rows c) = z := by
  rw [mem_cellsOf, anew_all s]
  constructor
  · rintro ⟨h1, h2⟩
    exact ⟨h1, by rw [anew_at h1] at h2; exact h2⟩
  · rintro ⟨h1, h2⟩
    exact ⟨h1, by rw [anew_at h1]; exact h2⟩
/-! ### plain: counts over pairs of neighbours -/
def cnt2 {α β : Type} (L : List α) (M : List β) (R : α → β → Bool) : Nat := (L.map fun c => M.countP (R c)).sum
theorem cnt2_nil {α β : Type} (M : List β) (R : α → β → Bool) : cnt2 ([] : List α) M R = 0 := rfl
theorem cnt2_cons {α β : Type} (c : α) (L : List α) (M : List β) (R : α → β → Bool) : cnt2 (c :: L) M R = M.countP (R c) + cnt2 L M R := by
  unfold cnt2
  rw [List.map_cons, List.sum_cons]
theorem cnt2_congr {α β : Type} {M : List β} {R R' : α → β → Bool} : ∀ {L : List α}, (∀ c ∈ L, ∀ p ∈ M, R c p = R' c p) → cnt2 L M R = cnt2 L M R'
  | [], _ => rfl
  | c :: L, h => by
    rw [cnt2_cons, cnt2_cons, cnt2_congr fun d hd => h d (List.mem_cons_of_mem _ hd)]
    congr 1
    exact List.countP_congr fun p hp => by rw [h c List.mem_cons_self p hp]
theorem countP_or {β : Type} {p q : β → Bool} : ∀ {M : List β}, (∀ x ∈ M, ¬ (p x = true ∧ q x = true)) → M.countP (fun x => p x || q x) = M.countP p + M.countP q
  | [], _ => rfl
  | x :: M, h => by
    have ih := countP_or (M := M) fun y hy => h y (List.mem_cons_of_mem _ hy)
    have hx := h x List.mem_cons_self
    rw [List.countP_cons, List.countP_cons, List.countP_cons, ih]
    cases hp : p x <;> cases hq : q x
    · simp
    · simp; omega
    · simp; omega
    · exact absurd ⟨hp, hq⟩ hx
theorem cnt2_or {α β : Type} {M : List β} {R R' : α → β → Bool} : ∀ {L : List α}, (∀ c ∈ L, ∀ p ∈ M, ¬ (R c p = true ∧ R' c p = true)) → cnt2 L M (fun c p => R c p || R' c p) = cnt2 L M R + cnt2 L M R'
  | [], _ => rfl
  | c :: L, h => by
    rw [cnt2_cons, cnt2_cons, cnt2_cons, cnt2_or fun d hd => h d (List.mem_cons_of_mem _ hd), countP_or (h c List.mem_cons_self)]
    omega
theorem cnt2_snoc {α β : Type} {p : β} {M : List β} {R : α → β → Bool} : ∀ {L : List α}, cnt2 L (p :: M) R = L.countP (fun c => R c p) + cnt2 L M R
  | [] => rfl
  | c :: L => by
    rw [cnt2_cons, cnt2_cons, cnt2_snoc, List.countP_cons, List.countP_cons]
    omega
theorem cnt2_swap {α β : Type} {R : α → β → Bool} (L : List α) : ∀ M : List β, cnt2 L M R = cnt2 M L fun p c => R c p
  | [] => by
    rw [cnt2_nil]
    induction L with
    | nil => rfl
    | cons c L ih => rw [cnt2_cons, ih]; rfl
  | p :: M => by rw [cnt2_snoc, cnt2_cons, cnt2_swap L M]
theorem cnt2_pos {α β : Type} {R : α → β → Bool} {M : List β} {c : α} {p : β} (hp : p ∈ M) (hR : R c p = true) : ∀ {L : List α}, c ∈ L → cnt2 L M R ≠ 0
  | d :: L, h => by
    rw [cnt2_cons]
    rcases List.mem_cons.mp h with rfl | h
    · have : 0 < M.countP (R c) := List.countP_pos_iff.mpr ⟨p, hp, hR⟩
      omega
    · have := cnt2_pos hp hR h
      omega
/-- neighbours c, p with c in A, p in B -/
def adjR (A B : Cell → Bool) (c p : Cell) : Bool := A c && B p && decide (p ∈ four c)
theorem four_sym {c p : Cell} : p ∈ four c ↔ c ∈ four p := ⟨four_symm, four_symm⟩
theorem adj_swap (L : List Cell) (A B : Cell → Bool) : cnt2 L L (adjR A B) = cnt2 L L (adjR B A) := by
  rw [cnt2_swap]
  refine cnt2_congr fun c _ p _ => ?_
  unfold adjR
  rw [Bool.and_comm (A p), show decide (c ∈ four p) = decide (p ∈ four c) from decide_eq_decide.mpr four_sym]
theorem adj_or (L : List Cell) {A A' B : Cell → Bool} (h : ∀ c ∈ L, ¬ (A c = true ∧ A' c = true)) : cnt2 L L (adjR (fun c => A c || A' c) B) = cnt2 L L (adjR A B) + cnt2 L L (adjR A' B) := by
  rw [← cnt2_or]
  · refine cnt2_congr fun c _ p _ => ?_
    simp only [adjR]
    generalize A c = x
    generalize A' c = y
    cases x <;> cases y <;> simp
  · rintro c hc p _ ⟨h1, h2⟩
    unfold adjR at h1 h2
    rw [Bool.and_eq_true, Bool.and_eq_true] at h1 h2
    exact h c hc ⟨h1.1.1, h2.1.1⟩
theorem adj_congr {L : List Cell} {A A' B B' : Cell → Bool} (h1 : ∀ c ∈ L, A c = A' c) (h2 : ∀ c ∈ L, B c = B' c) : cnt2 L L (adjR A B) = cnt2 L L (adjR A' B') := cnt2_congr fun c hc p hp => by
  unfold adjR
  rw [h1 c hc, h2 p hp]
/-- .. filtered from the four -/
theorem nd_four (c : Cell) : (four c).Nodup := by
  unfold four
  simp only [List.nodup_cons, List.mem_cons, List.not_mem_nil, Prod.mk.injEq, or_false, not_or, not_and, not_false_eq_true, List.nodup_nil, and_true]
  omega
theorem count_nd {α : Type} {xs ys : List α} {p q : α → Bool} (h1 : xs.Nodup) (h2 : ys.Nodup) (h : ∀ x, (x ∈ xs ∧ p x = true) ↔ (x ∈ ys ∧ q x = true)) : (xs.filter p).length = (ys.filter q).length :=
  (nd_perm (h1.filter p) (h2.filter q) fun x => by rw [List.mem_filter, List.mem_filter]; exact h x).length_eq
theorem isA_def (rows : Rows) (n : Str) : (fun c => decide (atR rows c = n)) = fun c => decide (atR rows c = n) := rfl
abbrev isA (rows : Rows) (n : Str) (c : Cell) : Bool := decide (atR rows c = n)
abbrev grid (rows : Rows) : List Cell := allC rows.length (wid rows)
theorem filt_flat {α β : Type} {f : α → List β} {p : β → Bool} : ∀ L : List α, ((L.flatMap f).filter p).length = (L.map fun c => ((f c).filter p).length).sum
  | [] => rfl
  | c :: L => by rw [List.flatMap_cons, List.filter_append, List.length_append, filt_flat L, List.map_cons, List.sum_cons]
theorem bord_adj {rows : Rows} (s : Shape rows) {a b : Str} (hab : a ≠ b) : bord rows a b = cnt2 (grid rows) (grid rows) (adjR (isA rows a) (isA rows b)) := by
  show cntK (allPairs rows) _ = _
  unfold cntK allPairs cnt2
  rw [filt_flat]
  congr 1
  refine List.map_congr_left fun c hc => ?_
  unfold pairsOf pairsAt
  rw [List.filter_filter, List.filter_map, List.length_map, List.filter_filter, List.countP_eq_length_filter]
  refine count_nd ((nd_four c).filter _) (nd_allC _ _) fun p => ?_
  unfold bes adjR
  simp only [Function.comp_apply, List.mem_filter, Bool.and_eq_true, decide_eq_true_eq, List.cons.injEq, Sum.inr.injEq, and_true]
  constructor
  · rintro ⟨⟨h1, h2⟩, ⟨⟨h3, h4⟩, _⟩, h5⟩
    exact ⟨gin_all s h2 h5, ⟨h3, h4⟩, h1⟩
  · rintro ⟨h1, ⟨h2, h3⟩, h4⟩
    refine ⟨⟨h4, okC_allC s.h12 s.w12 h1⟩, ⟨⟨h2, h3⟩, fun e => hab ?_⟩, ?_⟩
    · rw [← h2, ← h3]
      exact e.symm
    · obtain ⟨i, j, rfl, hi, hj⟩ := mem_allC.mp h1
      unfold gin
      simp
      omega
theorem sum_sub {α : Type} {f : α → Nat} : ∀ L : List α, (L.map fun c => (4 : Int) - (f c : Nat)).sum = 4 * (L.length : Nat) - ((L.map f).sum : Nat)
  | [] => rfl
  | c :: L => by
    rw [List.map_cons, List.sum_cons, sum_sub L, List.map_cons, List.sum_cons, List.length_cons]
    omega
theorem sum_filter {α : Type} {p : α → Bool} {f : α → Nat} : ∀ L : List α, ((L.filter p).map f).sum = (L.map fun c => if p c = true then f c else 0).sum
  | [] => rfl
  | c :: L => by
    rw [List.map_cons, List.sum_cons, ← sum_filter L]
    by_cases h : p c = true
    · rw [List.filter_cons_of_pos h, if_pos h, List.map_cons, List.sum_cons]
    · rw [List.filter_cons_of_neg h, if_neg h, Nat.zero_add]
theorem side_adj {rows : Rows} (s : Shape rows) (n : Str) : sideCount (cellsOf rows n) = 4 * ((cellsOf rows n).length : Nat) - (cnt2 (grid rows) (grid rows) (adjR (isA rows n) (isA rows n)) : Nat) := by
  unfold sideCount
  rw [sum_sub (f := fun c => ((bes c).filter fun p => decide (p ∈ cellsOf rows n)).length)]
  congr 2
  show ((List.filter _ _).map _).sum = _
  rw [sum_filter]
  unfold cnt2
  congr 1
  refine List.map_congr_left fun c hc => ?_
  rw [List.countP_eq_length_filter]
  by_cases h : atR rows c = n
  · rw [if_pos (decide_eq_true h)]
    refine count_nd ((nd_four c).filter _) (nd_allC _ _) fun p => ?_
    unfold adjR
    simp only [List.mem_filter, Bool.and_eq_true, decide_eq_true_eq, mem_cellsOf]
    constructor
    · rintro ⟨h12, h3, h4⟩
      exact ⟨h3, ⟨h, h4⟩, (List.mem_filter.mp h12).1⟩
    · rintro ⟨h1, ⟨_, h3⟩, h4⟩
      exact ⟨List.mem_filter.mpr ⟨h4, okC_allC s.h12 s.w12 h1⟩, h1, h3⟩
  · rw [if_neg (by rw [decide_eq_true_eq]; exact h)]
    symm
    rw [List.length_eq_zero_iff, List.filter_eq_nil_iff]
    intro p _ q
    unfold adjR at q
    rw [Bool.and_eq_true, Bool.and_eq_true, decide_eq_true_eq] at q
    exact h q.1.1
/-! ### plain: two parcels become one -/
abbrev uni (rows : Rows) (a b : Str) : Rows := anew rows (cellsOf rows b) a
theorem uni_at {rows : Rows} {a b : Str} {c : Cell} (hc : c ∈ grid rows) : atR (uni rows a b) c = if atR rows c = b then a else atR rows c := by
  rw [anew_at hc]
  by_cases e : atR rows c = b
  · rw [if_pos e, if_pos (mem_cellsOf.mpr ⟨hc, e⟩)]
  · rw [if_neg e, if_neg fun q => e (mem_cellsOf.mp q).2]
theorem isA_uni {rows : Rows} {a b : Str} {c : Cell} (hc : c ∈ grid rows) : isA (uni rows a b) a c = (isA rows a c || isA rows b c) := by
  unfold isA
  rw [uni_at hc]
  by_cases e : atR rows c = b
  · rw [if_pos e, decide_eq_true e, Bool.or_true, decide_eq_true rfl]
  · rw [if_neg e, decide_eq_false e, Bool.or_false]
theorem isA_uniO {rows : Rows} {a b o : Str} (h1 : o ≠ a) (h2 : o ≠ b) {c : Cell} (hc : c ∈ grid rows) : isA (uni rows a b) o c = isA rows o c := by
  unfold isA
  rw [uni_at hc]
  by_cases e : atR rows c = b
  · rw [if_pos e, e, decide_eq_false fun z => h1 z.symm, decide_eq_false fun z => h2 z.symm]
  · rw [if_neg e]
theorem isA_dis {rows : Rows} {a b : Str} (hab : a ≠ b) (c : Cell) : ¬ (isA rows a c = true ∧ isA rows b c = true) := fun h => by
  have h1 := of_decide_eq_true h.1
  have h2 := of_decide_eq_true h.2
  exact hab (h1.symm.trans h2)
theorem bord_uni {rows : Rows} (s : Shape rows) {a b o : Str} (hab : a ≠ b) (h1 : o ≠ a) (h2 : o ≠ b) : bord (uni rows a b) a o = bord rows a o + bord rows b o := by
  rw [bord_adj (anew_shape s _ _) (fun e => h1 e.symm), bord_adj s (fun e => h1 e.symm), bord_adj s (fun e => h2 e.symm)]
  unfold grid
  rw [anew_all s, ← adj_or _ fun c _ => isA_dis hab c]
  exact adj_congr (fun c hc => isA_uni hc) (fun c hc => isA_uniO h1 h2 hc)
theorem bord_sym {rows : Rows} (s : Shape rows) {a b : Str} (hab : a ≠ b) : bord rows a b = bord rows b a := by
  rw [bord_adj s hab, bord_adj s fun e => hab e.symm, adj_swap]
theorem area_uni {rows : Rows} (s : Shape rows) {a b : Str} (hab : a ≠ b) : (cellsOf (uni rows a b) a).length = (cellsOf rows a).length + (cellsOf rows b).length := by
  show (List.filter _ _).length = (List.filter _ _).length + (List.filter _ _).length
  rw [anew_all s, ← List.countP_eq_length_filter, ← List.countP_eq_length_filter, ← List.countP_eq_length_filter, ← countP_or fun c _ => isA_dis hab c]
  exact List.countP_congr fun c hc => by rw [show decide (atR (uni rows a b) c = a) = _ from isA_uni hc]
theorem side_uni {rows : Rows} (s : Shape rows) {a b : Str} (hab : a ≠ b) : sideCount (cellsOf (uni rows a b) a) = sideCount (cellsOf rows a) + sideCount (cellsOf rows b) - 2 * (bord rows a b : Nat) := by
  rw [side_adj (anew_shape s _ _), side_adj s, side_adj s, area_uni s hab, bord_adj s hab]
  have e : cnt2 (grid (uni rows a b)) (grid (uni rows a b)) (adjR (isA (uni rows a b) a) (isA (uni rows a b) a)) = cnt2 (grid rows) (grid rows) (adjR (isA rows a) (isA rows a)) + cnt2 (grid rows) (grid rows) (adjR (isA rows b) (isA rows b)) + 2 * cnt2 (grid rows) (grid rows) (adjR (isA rows a) (isA rows b)) := by
    have hd : ∀ c ∈ grid rows, ¬ (isA rows a c = true ∧ isA rows b c = true) := fun c _ => isA_dis hab c
    have e1 : cnt2 (grid (uni rows a b)) (grid (uni rows a b)) (adjR (isA (uni rows a b) a) (isA (uni rows a b) a)) = cnt2 (grid rows) (grid rows) (adjR (fun c => isA rows a c || isA rows b c) (fun c => isA rows a c || isA rows b c)) := by
      unfold grid
      rw [anew_all s]
      exact adj_congr (fun c hc => isA_uni hc) (fun c hc => isA_uni hc)
    rw [e1, adj_or _ hd, adj_swap _ (isA rows a), adj_swap _ (isA rows b), adj_or _ hd, adj_or _ hd, adj_swap _ (isA rows b) (isA rows a)]
    omega
  rw [e]
  omega
theorem bord_pos {rows : Rows} (s : Shape rows) {a b : Str} (hab : a ≠ b) {c d : Cell} (hc : c ∈ grid rows) (hd : d ∈ grid rows) (h : d ∈ four c) (ea : atR rows c = a) (eb : atR rows d = b) : bord rows a b ≠ 0 := by
  rw [bord_adj s hab]
  refine cnt2_pos hd ?_ hc
  unfold adjR
  rw [Bool.and_eq_true, Bool.and_eq_true]
  exact ⟨⟨decide_eq_true ea, decide_eq_true eb⟩, decide_eq_true h⟩
/-! ### plain: what hangs together -/
theorem conn_cut {A P : Cell → Prop} {s t : Cell} (r : Reach A s t) (hs : P s) (ht : ¬ P t) : ∃ c d, A c ∧ P c ∧ A d ∧ ¬ P d ∧ d ∈ four c := by
  induction r with
  | refl h => exact absurd hs ht
  | step r hu hA ih =>
    rename_i t u
    by_cases hp : P t
    · exact ⟨t, u, r.tgt, hp, hA, ht, hu⟩
    · exact ih hp
theorem conn_uni {A B : Cell → Prop} {c d : Cell} (ka : Conn A) (kb : Conn B) (hc : A c) (hd : B d) (h : d ∈ four c) : Conn fun x => A x ∨ B x := by
  have ra : ∀ {s t}, A s → A t → Reach (fun x => A x ∨ B x) s t := fun hs ht => (ka _ _ hs ht).mono fun _ => .inl
  have rb : ∀ {s t}, B s → B t → Reach (fun x => A x ∨ B x) s t := fun hs ht => (kb _ _ hs ht).mono fun _ => .inr
  have cd : Reach (fun x => A x ∨ B x) c d := .step (.refl (.inl hc)) h (.inr hd)
  rintro s t (hs | hs) (ht | ht)
  · exact ra hs ht
  · exact ((ra hs hc).trans cd).trans (rb hd ht)
  · exact ((rb hs hd).trans cd.symm).trans (ra hc ht)
  · exact rb hs ht
end K9W
end
section
set_option Elab.async false
set_option linter.all false
set_option maxRecDepth 100000
set_option maxHeartbeats 4000000
namespace K9W
open PySem PySem.Spec PyProof.Rows L2 L2.K9R L2.K9A K9 K9M
theorem srt_allC : ∀ h w : Nat, SrtC (allC h w)
  | 0, w => List.Pairwise.nil
  | h + 1, w => by
    rw [allC_succ]
    unfold SrtC
    rw [List.pairwise_append]
    refine ⟨srt_allC h w, ?_, fun a ha b hb => ?_⟩
    · unfold rowC
      refine List.pairwise_map.mpr (List.pairwise_lt_range.imp fun {a b} hab => SrtO.lexB_no.mpr ?_)
      dsimp only
      omega
    · obtain ⟨i, j, rfl, hi, hj⟩ := mem_allC.mp ha
      unfold rowC at hb
      obtain ⟨k, hk, rfl⟩ := List.mem_map.mp hb
      refine SrtO.lexB_no.mpr ?_
      dsimp only
      omega
theorem platOk_map {rows : Rows} {road : List Cell} (g : GoodMap rows road) : PlatOk rows road := by
  have nd := nd_allC rows.length (wid rows)
  refine ⟨g.good, fun ns hns => Nat.le_trans (g.few ns hns) (by decide), fun n _ => g.conn n, (g.road.trans List.filter_sublist).nodup nd, fun c hc => ?_, List.Pairwise.sublist (g.road.trans List.filter_sublist) (srt_allC _ _)⟩
  have := g.road.subset hc
  exact List.mem_filter.mp this
/-- the same road, the same dimensions -/
theorem platOk_anew {rows : Rows} {road : List Cell} (ok : PlatOk rows road) {cs : List Cell} {n : Str} (hn : IsWord n) (few : ∀ ns, Names (anew rows cs n) ns → ns.length ≤ 12) (cn : ∀ z, InR (anew rows cs n) z → Conn (· ∈ cellsOf (anew rows cs n) z)) : PlatOk (anew rows cs n) road := by
  refine ⟨anew_good ok.good hn, few, cn, ok.rnd, fun c hc => ?_, ok.rsrt⟩
  rw [anew_len, anew_wid ok.good.sh]
  exact ok.redge c hc
theorem word_of {rows : Rows} (g : Good rows) {n : Str} (h : InR rows n) : IsWord n := by
  obtain ⟨r, hr, hz⟩ := h
  exact g.wd r hr n hz
/-! ### two become one -/
theorem uni_inR {rows : Rows} (s : Shape rows) {a b : Str} (ha : InR rows a) (hab : a ≠ b) {z : Str} : InR (uni rows a b) z ↔ InR rows z ∧ z ≠ b := by
  rw [anew_inR, inR_iff s]
  constructor
  · rintro ⟨c, hc, e⟩
    by_cases h : c ∈ cellsOf rows b
    · rw [if_pos h] at e
      subst e
      exact ⟨(inR_iff s).mp ha, hab⟩
    · rw [if_neg h] at e
      refine ⟨⟨c, hc, e⟩, fun q => h (mem_cellsOf.mpr ⟨hc, e.trans q⟩)⟩
  · rintro ⟨⟨c, hc, e⟩, hz⟩
    refine ⟨c, hc, ?_⟩
    rw [if_neg fun h => hz (e.symm.trans (mem_cellsOf.mp h).2)]
    exact e
theorem uni_names {rows : Rows} (s : Shape rows) {a b : Str} (ha : InR rows a) (hb : InR rows b) (hab : a ≠ b) {ns ms : List Str} (h1 : Names rows ns) (h2 : Names (uni rows a b) ms) : ms.length + 1 = ns.length := by
  have hbn : b ∈ ns := (h1.mem b).mpr hb
  have p : ms.Perm (ns.erase b) := nd_perm h2.nd (h1.nd.erase b) fun z => by
    rw [h2.mem, h1.nd.mem_erase_iff]
    show InR (uni rows a b) z ↔ _
    rw [uni_inR s ha hab, h1.mem, and_comm]
  rw [p.length_eq, List.length_erase_of_mem hbn]
  have := List.length_pos_of_mem hbn
  omega
theorem mem_uni {rows : Rows} (s : Shape rows) {a b z : Str} {c : Cell} : c ∈ cellsOf (uni rows a b) z ↔ c ∈ grid rows ∧ (if atR rows c = b then a else atR rows c) = z := by
  rw [mem_cellsOf, anew_all s]
  constructor
  · rintro ⟨h1, h2⟩
    exact ⟨h1, by rw [← uni_at h1]; exact h2⟩
  · rintro ⟨h1, h2⟩
    exact ⟨h1, by rw [uni_at h1]; exact h2⟩
theorem uni_cells {rows : Rows} (s : Shape rows) {a b : Str} (c : Cell) : c ∈ cellsOf (uni rows a b) a ↔ c ∈ cellsOf rows a ∨ c ∈ cellsOf rows b := by
  rw [mem_uni s, mem_cellsOf, mem_cellsOf]
  by_cases e : atR rows c = b
  · rw [if_pos e]
    exact ⟨fun h => .inr ⟨h.1, e⟩, fun h => ⟨h.elim (fun q => q.1) fun q => q.1, rfl⟩⟩
  · rw [if_neg e]
    exact ⟨fun h => .inl h, fun h => h.elim id fun q => absurd q.2 e⟩
theorem uni_cellsO {rows : Rows} (s : Shape rows) {a b o : Str} (h1 : o ≠ a) (h2 : o ≠ b) (c : Cell) : c ∈ cellsOf (uni rows a b) o ↔ c ∈ cellsOf rows o := by
  rw [mem_uni s, mem_cellsOf]
  by_cases e : atR rows c = b
  · rw [if_pos e]
    exact ⟨fun h => absurd h.2.symm h1, fun h => absurd (h.2.symm.trans e) h2⟩
  · rw [if_neg e]
/-- two neighbours -/
structure Nb (rows : Rows) (a b : Str) : Prop where
  ne : a ≠ b
  ex : ∃ c d, c ∈ grid rows ∧ d ∈ grid rows ∧ d ∈ four c ∧ atR rows c = a ∧ atR rows d = b
theorem nb_of {rows : Rows} {p : Str × Str} (h : PP rows p) : Nb rows p.1 p.2 := ⟨h.1, h.2⟩
theorem Nb.symm {rows : Rows} {a b : Str} (h : Nb rows a b) : Nb rows b a := by
  obtain ⟨c, d, h1, h2, h3, h4, h5⟩ := h.ex
  exact ⟨fun e => h.ne e.symm, d, c, h2, h1, four_symm h3, h5, h4⟩
theorem Nb.in1 {rows : Rows} {a b : Str} (h : Nb rows a b) (s : Shape rows) : InR rows a := by
  obtain ⟨c, d, h1, h2, h3, h4, h5⟩ := h.ex
  exact (inR_iff s).mpr ⟨c, h1, h4⟩
theorem Nb.in2 {rows : Rows} {a b : Str} (h : Nb rows a b) (s : Shape rows) : InR rows b := h.symm.in1 s
theorem Nb.pos {rows : Rows} {a b : Str} (h : Nb rows a b) (s : Shape rows) : bord rows a b ≠ 0 := by
  obtain ⟨c, d, h1, h2, h3, h4, h5⟩ := h.ex
  exact bord_pos s h.ne h1 h2 h3 h4 h5
theorem platOk_uni {rows : Rows} {road : List Cell} (ok : PlatOk rows road) {a b : Str} (h : Nb rows a b) (hw : ∃ ns, Names rows ns) : PlatOk (uni rows a b) road := by
  have s := ok.good.sh
  have ha := h.in1 s
  have hb := h.in2 s
  refine platOk_anew ok (word_of ok.good ha) (fun ms hms => ?_) fun z hz => ?_
  · obtain ⟨ns, hns⟩ := hw
    have := uni_names s ha hb h.ne hns hms
    have := ok.few ns hns
    omega
  · obtain ⟨hz1, hz2⟩ := (uni_inR s ha h.ne).mp hz
    by_cases e : z = a
    · subst e
      obtain ⟨c, d, h1, h2, h3, h4, h5⟩ := h.ex
      exact conn_congr (fun c => (uni_cells s c).symm) (conn_uni (ok.conn z ha) (ok.conn b hb) (c := c) (d := d) (mem_cellsOf.mpr ⟨h1, h4⟩) (mem_cellsOf.mpr ⟨h2, h5⟩) h3)
    · exact conn_congr (fun c => (uni_cellsO s e hz2 c).symm) (ok.conn z hz1)
/-! ### one becomes two -/
theorem div_cells {rows : Rows} (s : Shape rows) {n new : Str} {cs : List Cell} (hf : ¬ InR rows new) (sub : ∀ c ∈ cs, c ∈ cellsOf rows n) (c : Cell) : c ∈ cellsOf (anew rows cs new) new ↔ c ∈ cs := by
  rw [mem_cells s]
  constructor
  · rintro ⟨h1, h2⟩
    by_cases e : c ∈ cs
    · exact e
    · rw [if_neg e] at h2
      exact absurd ((inR_iff s).mpr ⟨c, h1, h2⟩) hf
  · intro h
    exact ⟨(mem_cellsOf.mp (sub c h)).1, if_pos h⟩
theorem div_rest {rows : Rows} (s : Shape rows) {n new : Str} {cs : List Cell} (hne : n ≠ new) (c : Cell) : c ∈ cellsOf (anew rows cs new) n ↔ c ∈ restOf rows n cs := by
  rw [mem_cells s]
  unfold restOf
  rw [List.mem_filter, mem_cellsOf, Bool.not_eq_true', decide_eq_false_iff_not]
  constructor
  · rintro ⟨h1, h2⟩
    by_cases e : c ∈ cs
    · rw [if_pos e] at h2
      exact absurd h2.symm hne
    · rw [if_neg e] at h2
      exact ⟨⟨h1, h2⟩, e⟩
  · rintro ⟨⟨h1, h2⟩, e⟩
    exact ⟨h1, by rw [if_neg e]; exact h2⟩
theorem div_back {rows : Rows} (s : Shape rows) {n new : Str} {cs : List Cell} (hf : ¬ InR rows new) (sub : ∀ c ∈ cs, c ∈ cellsOf rows n) : uni (anew rows cs new) n new = rows := by
  unfold uni
  rw [anew_anew s (f := atR rows) fun c hc => ?_]
  · exact (rows_tab s).symm
  · by_cases e : c ∈ cs
    · rw [if_pos ((div_cells s hf sub c).mpr e)]
      exact (mem_cellsOf.mp (sub c e)).2.symm
    · rw [if_neg fun q => e ((div_cells s hf sub c).mp q), if_neg e]
theorem div_turn {rows : Rows} (s : Shape rows) {n new : Str} {cs : List Cell} (hne : n ≠ new) (sub : ∀ c ∈ cs, c ∈ cellsOf rows n) : uni (anew rows cs new) new n = anew rows (cellsOf rows n) new := by
  unfold uni
  rw [anew_tab rows (cellsOf rows n)]
  refine anew_anew s fun c hc => ?_
  by_cases e : c ∈ cs
  · rw [if_neg fun q => ?_, if_pos e, if_pos (sub c e)]
    have := (div_rest s hne c).mp q
    unfold restOf at this
    rw [List.mem_filter, Bool.not_eq_true', decide_eq_false_iff_not] at this
    exact this.2 e
  · by_cases h : c ∈ cellsOf rows n
    · rw [if_pos h, if_pos]
      refine (div_rest s hne c).mpr ?_
      unfold restOf
      rw [List.mem_filter, Bool.not_eq_true', decide_eq_false_iff_not]
      exact ⟨h, e⟩
    · rw [if_neg h, if_neg e, if_neg]
      intro q
      have := (div_rest s hne c).mp q
      unfold restOf at this
      exact h (List.mem_filter.mp this).1
theorem DivOk.nn {rows : Rows} {road : List Cell} {n new : Str} {cs : List Cell} (dv : DivOk rows road n cs new) : n ≠ new := fun e => dv.fr (e ▸ dv.hn)
theorem DivOk.nb {rows : Rows} {road : List Cell} {n new : Str} {cs : List Cell} (dv : DivOk rows road n cs new) : Nb (anew rows cs new) n new := by
  have s := dv.ok.good.sh
  obtain ⟨x, hx⟩ := List.exists_mem_of_ne_nil _ dv.ne
  obtain ⟨y, hy⟩ := List.exists_mem_of_ne_nil _ dv.rne
  have hy2 : y ∈ cellsOf rows n ∧ y ∉ cs := by
    unfold restOf at hy
    rw [List.mem_filter, Bool.not_eq_true', decide_eq_false_iff_not] at hy
    exact hy
  obtain ⟨c, d, h1, h2, h3, h4, h5⟩ := conn_cut (P := (· ∈ cs)) (dv.ok.conn n dv.hn x y (dv.sub x hx) hy2.1) hx hy2.2
  have g1 := (mem_cellsOf.mp h1).1
  have g3 := mem_cellsOf.mp h3
  refine ⟨dv.nn, d, c, ?_, ?_, four_symm h5, ?_, ?_⟩
  · unfold grid
    rw [anew_all s]
    exact g3.1
  · unfold grid
    rw [anew_all s]
    exact g1
  · rw [anew_at g3.1, if_neg h4]
    exact g3.2
  · rw [anew_at g1, if_pos h2]
theorem DivOk.inO {rows : Rows} {road : List Cell} {n new : Str} {cs : List Cell} (dv : DivOk rows road n cs new) {z : Str} (hz : InR rows z) : InR (anew rows cs new) z := by
  have s := dv.ok.good.sh
  have e := uni_inR (anew_shape s cs new) (dv.nb.in1 (anew_shape s cs new)) dv.nn (z := z)
  rw [div_back s dv.fr dv.sub] at e
  exact (e.mp hz).1
theorem DivOk.perm {rows : Rows} {road : List Cell} {n new : Str} {cs ds : List Cell} (dv : DivOk rows road n cs new) (p : ds.Perm cs) : DivOk rows road n ds new := by
  have hr : restOf rows n ds = restOf rows n cs := by
    unfold restOf
    refine List.filter_congr fun c _ => ?_
    rw [show decide (c ∈ ds) = decide (c ∈ cs) from decide_eq_decide.mpr p.mem_iff]
  refine ⟨dv.ok, dv.hn, dv.wd, dv.fr, dv.few, p.nodup_iff.mpr dv.nd, fun e => ?_, fun c hc => dv.sub c (p.mem_iff.mp hc), conn_congr (fun c => p.mem_iff.symm) dv.cn, hr ▸ dv.rne, hr ▸ dv.rcn, ?_⟩
  · subst e
    exact dv.ne (List.Perm.eq_nil p.symm)
  · rw [anew_perm (ds := cs) fun c => p.mem_iff]
    exact dv.ok2
theorem divOk_of {rows : Rows} {road : List Cell} {n new : Str} {cs : List Cell} (g : GoodMap rows road) (hn : InR rows n) (wd : IsWord new) (fr : ¬ InR rows new) (pt : Part (cellsOf rows n) cs) (ne : cs ≠ []) (nf : NoFault (anew rows cs new)) : DivOk rows road n cs new := by
  have s := g.good.sh
  have ok := platOk_map g
  have nn : n ≠ new := fun e => fr (e ▸ hn)
  obtain ⟨nd, sub, pr⟩ := pt
  obtain ⟨y, hy1, hy2⟩ := pr ne
  have hyr : y ∈ restOf rows n cs := by
    unfold restOf
    rw [List.mem_filter, Bool.not_eq_true', decide_eq_false_iff_not]
    exact ⟨hy1, hy2⟩
  obtain ⟨x, hx⟩ := List.exists_mem_of_ne_nil _ ne
  have s2 := anew_shape s cs new
  have i1 : InR (anew rows cs new) new := anew_inR.mpr ⟨x, (mem_cellsOf.mp (sub x hx)).1, if_pos hx⟩
  have i2 : InR (anew rows cs new) n := anew_inR.mpr ⟨y, (mem_cellsOf.mp hy1).1, by rw [if_neg hy2]; exact (mem_cellsOf.mp hy1).2⟩
  refine ⟨ok, hn, wd, fr, fun ns h => Nat.lt_of_le_of_lt (g.few ns h) (by decide), nd, ne, sub, conn_congr (fun c => div_cells s fr sub c) (nf.conn new i1), fun e => ?_, conn_congr (fun c => div_rest s nn c) (nf.conn n i2), platOk_anew ok wd (fun ms hms => ?_) nf.conn⟩
  · rw [e] at hyr
    cases hyr
  · obtain ⟨ns, h1, h2⟩ := nf.few
    rw [hms.uniq h1]
    exact h2
theorem perm_map {α β : Type} {f : α → β} : ∀ {cs : List α} {l : List β}, l.Perm (cs.map f) → ∃ ds : List α, ds.Perm cs ∧ l = ds.map f
  | [], l, p => ⟨[], .nil, p.eq_nil⟩
  | c :: cs, l, p => by
    have hm : f c ∈ l := p.mem_iff.mpr List.mem_cons_self
    obtain ⟨l1, l2, e⟩ := List.append_of_mem hm
    subst e
    have p2 : (l1 ++ l2).Perm (cs.map f) := (List.perm_middle.symm.trans p).cons_inv
    obtain ⟨ds, h1, h2⟩ := perm_map p2
    refine ⟨ds.take l1.length ++ c :: ds.drop l1.length, ?_, ?_⟩
    · refine List.perm_middle.trans ?_
      rw [List.take_append_drop]
      exact h1.cons c
    · rw [List.map_append, List.map_cons, List.map_take, List.map_drop, ← h2]
      simp
end K9W
end
section
set_option Elab.async false
set_option linter.all false
set_option maxRecDepth 100000
set_option maxHeartbeats 2000000
namespace L2.K9A
open PySem PySem.Spec PyProof.Rows L2 L2.K9R
open C8 (Cal Met pe_c pe_mt pe_mt0 InsC call_isC pe_gc)
section
variable {B : Bs} {b : Option Addr} {S : List Addr} {hs hs' : Hs} {es es' : Es} {σ : L2.St} {H H1 H' : Hp} {ta tb tc te tk tv to ti : TE} {tt tu : TT} {tar : TA} {R Ra Rb Rc : Rep} {K : PySem.W.Frag} {h : HRep} {D : Ends} {t1 t2 tbd tz : TS} {T : L2.St → Hp → Prop} {wi : TI} {g : TG} {C : Addr} {m m2 : Str}
theorem rv_neP {Cn : Option Addr → List Rep → Rep → Prop} {c : Bool} (ha : IsIns C m Ra) (hb : IsIns C m2 Rb) (hc : Cn b [Ra, Rb] (rBl c)) : RV2 b hs (rNeP C (SpD Cn)) Ra Rb (rBl (!c)) := fun S H x y k ho e1 e2 Q q => by
  obtain ⟨a, dx, fs, rfl, h1, _⟩ := ha _ _ e1
  obtain ⟨a', dy, gs, rfl, h2, _⟩ := hb _ _ e2
  exact ⟨a, a', dx, dy, fs, gs, rfl, rfl, msk_same _ _ h1, msk_same _ _ h2, S, b, [Ra, Rb], rBl c, k, ⟨e1, e2, True.intro⟩, hc, fun v H' f r => ⟨c, r, q _ H' f rfl⟩⟩
theorem ev_lenP {α : Type} {Cn : Option Addr → List Rep → Rep → Prop} {P : α → Prop} {f : α → Int} (ha : EV b hs es ta Ra) (hi : IsIns C m Ra) (hc : Cn b [Ra] (rEx P fun x => rInt (f x))) (hP : ∀ x, P x → 0 ≤ f x ∧ f x < 2 ^ 31) : EV b hs es (tCB (rLenP C (SpD Cn)) (tCons ta tNil)) (rEx P fun x => rInt (f x)) := ev_cb (ea_cons ha ea_nil) fun S H vs k ho al Q q => by
  obtain ⟨x, rfl, hx⟩ := all1 al
  obtain ⟨a, dx, fs, rfl, h1, _⟩ := hi _ _ hx
  exact ⟨a, dx, fs, rfl, msk_same _ _ h1, S, b, [Ra], _, k, ⟨hx, True.intro⟩, hc, fun v H' f r => by
    obtain ⟨z, hz, e⟩ := r
    exact ⟨_, e, hP z hz, q _ H' f ⟨z, hz, rfl⟩⟩⟩
theorem en_callX {α : Type} {P : α → Prop} {f : α → Rep} {Cn : Option Addr → List Rep → HRep → Prop} {Rs : List Rep} {E : XK} (ha : EA b hs es tar (Rs ++ [rEx P f])) (hc : ∀ x, P x → ∃ hx : HRep, Cn b (Rs ++ [f x]) hx ∧ ∀ o M, hx.P o M → h.P o M) : EN b hs es (tCall (SpN Cn) [] E tar) h := fun S σ H s Q q =>
  ha S σ H s _ fun vs H1 f1 r1 => by
    obtain ⟨x, px, r2⟩ := r1.lastX
    obtain ⟨hx, h1, up⟩ := hc x px
    exact ⟨S, b, _, hx, f1.ok, by rw [List.append_nil]; exact r2, h1, fun p o H' f3 e3 r3 => q p o H' (FrN.after f1 f3) e3 (up _ _ r3)⟩
theorem en_cutX {α : Type} {P : List α → Prop} {f : α → Rep} {lo hi : Option Int} {tl th : TO} (ha : EV b hs es ta (rEx P fun xs => rL (xs.map f))) (hl : EO b hs es tl (fun o => o = lo)) (hh : EO b hs es th (fun o => o = hi)) : EN b hs es (tSl (rSlL K) ta tl th) (hEx P fun xs => hL ((cutA xs lo hi).map f)) := fun S σ H s Q q =>
  ha S σ H s _ fun x H1 f1 r1 => hl S σ H1 (s.mono f1) _ fun l H2 f2 p2 => hh S σ H2 ((s.mono f1).mono f2) _ fun u H3 f3 p3 => by
    subst p2 p3
    obtain ⟨xs, px, r2⟩ := r1
    obtain ⟨a, vs, e, haa, _, al⟩ := rL_at ((rL (xs.map f)).up (f2.dat.trans f3.dat) r2)
    refine ⟨a, vs, e, sq_of haa, en_new s.ok ((f1.trans f2).trans f3) (h := hEx P fun xs => hL ((cutA xs l u).map f)) ⟨xs, px, _, rfl, ?_⟩ q⟩
    rw [← cutR_map]
    unfold cutR cutV
    rw [al.len]
    exact (al.drop _).take _
theorem ty_refNo {a : Addr} : (V.ref a = V.non) = False := by simp
end
section
variable {P : Program} {w : World} {K : PySem.W.Frag} {mg : Str → Option Value} {base : Heap} {x qual : Str} {params : Arguments} {body : List Stmt} {scope : Scope} {kws : List (Str × V)} {f : Addr} {fd : FuncData} {Nm ps : List Str} {k : Nat} {C : Addr}
/-- what the law promises -/
def SpL (K : PySem.W.Frag) : Sp := fun vs H Q _ => ∃ (a : Addr) (ns : List Int), vs = [.ref a] ∧ SqL K H a (ns.map V.int) ∧ ns.length ≤ 63 ∧ ∀ H', Q (.bl true) H'
theorem fnL (F : FunD K x qual params body scope [] kws f fd) (sc : FnScope Nm ps scope) (hps : ps.length = 1)
    (hbody : ∀ (cdv : Value) (A : Around) (outer : List Env) (s : Shared) (H : Hp) (E : XK), Room k (A.deeper (envOfC qual scope s.heap.objs.size f cdv)) →
      ∃ t, PSs (cxOf CX0 P w K mg base Nm qual scope f cdv A outer s H E).nox body t ∧ ∀ (B : Bs) (Q : VK) (ns : List Int), B.b = none → B.gs = [] → ns.length ≤ 63 → (∀ H', Q (.bl true) H') → N B [] (esOf Nm [rScript K ns]) (t { nx := fun _ H' => Q .non H', rt := Q })) :
    FnOk P w K mg base CX0 (k + 1) f fd ps (SpL K) := by
  refine F.ok sc (fun vs H Q E h => ?_) (fun cdv A outer s H vs Q E hr h => ?_)
  · obtain ⟨a, ns, rfl, _⟩ := h
    rw [hps]
    rfl
  · obtain ⟨a, ns, rfl, hS, hl, q⟩ := h
    obtain ⟨t, ht, hb⟩ := hbody cdv A outer s H E hr
    have em : msk ([] : List Addr) H = H := by
      funext p
      exact if_neg (fun h => nomatch h)
    have al : All2 [rScript K ns] [.ref a] (msk [] H) := ⟨⟨a, rfl, by rw [em]; exact hS⟩, True.intro⟩
    refine ⟨t, ht.nox, hb ⟨none, [], H, []⟩ Q ns rfl rfl hl q _ _ ?_⟩
    exact ⟨⟨⟨fun p hp => (by cases hp), fun a ha => (by cases ha)⟩, start_slots Nm al al.len, fun x hx => by cases hx⟩, List.nodup_nil, fun p hp => (by cases hp), Same.refl _, fun _ _ _ => rfl, fun a ha => (by cases ha), fun g hg => by cases hg⟩
end
end L2.K9A
end
section
set_option Elab.async false
set_option linter.all false
set_option maxRecDepth 100000
set_option maxHeartbeats 4000000
namespace K9W
open PySem PySem.Spec PyProof.Rows L2 L2.K9R L2.K9A K9 K9M
open RZ (pi_zipA)
open C8 (Cal Met pe_c pe_mt pe_mt0 InsC call_isC pe_gc)
section
variable {P : Program} {w : World} {K : PySem.W.Frag} {hp : Heap} {mg : Str → Option Value} {base : Heap}

/-! ### the law -/
theorem rv_isNoO {b : Option Addr} {hs : Hs} {c : Bool} : RV2 b hs rIsNo (rOpt c) rNon (rBl c) := fun S H x y k ho e1 e2 Q q => by
  cases c with
  | true => exact rv_isNo (x := .non) S H x y k ho e1 e2 Q q
  | false =>
    obtain ⟨a, rfl⟩ := (show rRef.P x _ from e1)
    exact rv_isNo (x := .ref a) S H _ y k ho rfl e2 Q q
theorem ev_rowsP {b : Option Addr} {hs : Hs} {es : Es} {ta : TE} {C : Addr} {rows : Rows} {road : List Cell} {E : XK} (s : Shape rows) (ha : EV b hs es ta (rPlat C rows road)) : EV b hs es (tMeth C "rows" (SpM (CT_P_rows C)) [] E ta tNil) (rRows rows) :=
  ev_mtM (G := GRows rows) ha (isIns_P (by decide +kernel)) ea_nil ⟨rows, road, s, rfl, rfl⟩ fun p hn S H H' hG f => by
    obtain ⟨ad, rfl⟩ := hG
    have hpm : (p, hL ((List.range rows.length).map fun i => rAt (ad i))) ∈ nestF ad (rowH rows) rows.length ++ [(p, hL ((List.range rows.length).map fun i => rAt (ad i)))] := List.mem_append_right _ List.mem_cons_self
    obtain ⟨o, ho, vs, eo, al⟩ := f.at_ _ hpm
    subst eo
    have np : p ∉ S := f.new p (List.mem_map.mpr ⟨_, hpm, rfl⟩)
    refine ⟨p, .lst vs, rfl, (msk_out np).trans ho, vs, rfl, ?_⟩
    have e : rows.map rStrs = (List.range rows.length).map fun i => rStrs (rows.getD i []) := by
      apply List.ext_getElem?
      intro i
      rw [List.getElem?_map, List.getElem?_map]
      by_cases hi : i < rows.length
      · rw [List.getElem?_range hi, List.getElem?_eq_getElem hi]
        show some _ = some (rStrs (rows.getD i []))
        rw [List.getD_eq_getElem?_getD, List.getElem?_eq_getElem hi]
        rfl
      · rw [List.getElem?_eq_none (by omega), List.getElem?_eq_none (by rw [List.length_range]; omega)]
        rfl
    rw [e]
    refine All2.conv (f := fun i => rAt (ad i)) al fun j hj v hv => ?_
    have hjm : (ad j, rowH rows j) ∈ nestF ad (rowH rows) rows.length ++ [(p, hL ((List.range rows.length).map fun i => rAt (ad i)))] := List.mem_append_left _ (List.mem_map.mpr ⟨j, hj, rfl⟩)
    obtain ⟨o2, ho2, hg2⟩ := f.at_ _ hjm
    have nj : ad j ∉ S := f.new _ (List.mem_map.mpr ⟨_, hjm, rfl⟩)
    exact ⟨ad j, o2, hv, (msk_out nj).trans ho2, (rowH rows j).up (msk_sub fun q hq => List.mem_append_right _ hq) hg2⟩
theorem ev_namesP {b : Option Addr} {hs : Hs} {es : Es} {ta : TE} {C : Addr} {rows : Rows} {road : List Cell} {ns : List Str} {E : XK} (hns : Names rows ns) (ha : EV b hs es ta (rPlat C rows road)) : EV b hs es (tMeth C "names" (SpD (CT_P_names C)) [] E ta tNil) (rStrs ns) :=
  EV.up (ev_mt (m := "names") ha (isIns_P (by decide +kernel)) ea_nil ⟨rows, road, rfl, rfl⟩) fun v M q => by
    obtain ⟨ms, hms, h⟩ := q
    rw [hns.uniq hms]
    exact h
theorem ev_roadP {b : Option Addr} {hs : Hs} {es : Es} {ta : TE} {C : Addr} {rows : Rows} {road : List Cell} {E : XK} (ha : EV b hs es ta (rPlat C rows road)) : EV b hs es (tMeth C "road" (SpD (CT_P_road C)) [] E ta tNil) (rCells road) :=
  ev_mt (m := "road") ha (isIns_P (by decide +kernel)) ea_nil ⟨rows, road, rfl, rfl⟩
theorem ev_areaP {b : Option Addr} {hs : Hs} {es : Es} {ta tb : TE} {C : Addr} {rows : Rows} {road : List Cell} {n : Str} {E : XK} (hn : InR rows n) (ha : EV b hs es ta (rPlat C rows road)) (hb : EV b hs es tb (rStr n)) : EV b hs es (tMeth C "area" (SpD (CT_P_area C)) [] E ta (tCons tb tNil)) (rInt ((cellsOf rows n).length : Nat)) :=
  ev_mt (m := "area") ha (isIns_P (by decide +kernel)) (ea_cons hb ea_nil) ⟨rows, road, n, hn, rfl, rfl⟩
theorem ev_sideP {b : Option Addr} {hs : Hs} {es : Es} {ta tb : TE} {C : Addr} {rows : Rows} {road : List Cell} {n : Str} {E : XK} (s : Shape rows) (hn : InR rows n) (ha : EV b hs es ta (rPlat C rows road)) (hb : EV b hs es tb (rStr n)) : EV b hs es (tMeth C "outline" (SpD (CT_P_outline C)) [] E ta (tCons tb tNil)) (rInt (sideCount (cellsOf rows n))) :=
  ev_mt (m := "outline") ha (isIns_P (by decide +kernel)) (ea_cons hb ea_nil) ⟨rows, road, n, s, hn, rfl, rfl⟩
theorem ev_bordP {b : Option Addr} {hs : Hs} {es : Es} {ta tb tc : TE} {C : Addr} {rows : Rows} {road : List Cell} {n m : Str} {E : XK} (hn : InR rows n) (hm : InR rows m) (ha : EV b hs es ta (rPlat C rows road)) (hb : EV b hs es tb (rStr n)) (hc : EV b hs es tc (rStr m)) : EV b hs es (tMeth C "border" (SpD (CT_P_border C)) [] E ta (tCons tb (tCons tc tNil))) (rInt (bord rows n m)) :=
  ev_mt (m := "border") ha (isIns_P (by decide +kernel)) (ea_cons hb (ea_cons hc ea_nil)) ⟨rows, road, n, m, hn, hm, rfl, rfl⟩
theorem ev_uniP {b : Option Addr} {hs : Hs} {es : Es} {ta tb tc : TE} {C : Addr} {rows X : Rows} {road : List Cell} {n m : Str} {E : XK} (ok : PlatOk rows road) (nb : Nb rows n m) (hns : ∃ ns, Names rows ns) (eX : uni rows n m = X) (ha : EV b hs es ta (rPlat C rows road)) (hb : EV b hs es tb (rStr n)) (hc : EV b hs es tc (rStr m)) : EV b hs es (tMeth C "united" (SpD (CT_P_united C)) [] E ta (tCons tb (tCons tc tNil))) (rPlat C X road) :=
  ev_mt (m := "united") ha (isIns_P (by decide +kernel)) (ea_cons hb (ea_cons hc ea_nil)) ⟨rows, road, n, m, ok, nb.in1 ok.good.sh, nb.in2 ok.good.sh, nb.pos ok.good.sh, platOk_uni ok nb hns, rfl, by rw [← eX]⟩
theorem ev_uniPK {b : Option Addr} {hs : Hs} {es : Es} {ta tb tc : TE} {C : Addr} {rows X : Rows} {road : List Cell} {n m : Str} {E : XK} (ok : PlatOk rows road) (nb : Nb rows n m) (hns : ∃ ns, Names rows ns) (eX : uni rows n m = X) (ha : EV b hs es ta (rPlat C rows road)) (hb : EV b hs es tb (rStr m)) (hc : EV b hs es tc (rStr n)) : EV b hs es (tMethK C "united" (SpD (CT_P_united C)) (fun vs zs => g_P_united vs zs) E ta (tCons tb (tCons tc tNil))) (rPlat C X road) :=
  ev_mtK (m := "united") (Rs := [rPlat C rows road, rStr n, rStr m]) ha (isIns_P (by decide +kernel)) (ea_cons hb (ea_cons hc ea_nil)) (fun x zs M hx hz => by
    obtain ⟨y, z, rfl, hy, hz⟩ := all_2 hz
    exact ⟨hx, hz, hy, True.intro⟩) ⟨rows, road, n, m, ok, nb.in1 ok.good.sh, nb.in2 ok.good.sh, nb.pos ok.good.sh, platOk_uni ok nb hns, rfl, by rw [← eX]⟩
theorem rv_neEq {b : Option Addr} {hs : Hs} {C : Addr} {rows : Rows} {road : List Cell} (g : Good rows) : RV2 b hs (rNeP C (SpD (CT_P_eq C))) (rPlat C rows road) (rPlat C rows road) (rBl false) :=
  rv_neP (m := "x") (m2 := "x") (c := true) (isIns_P (by decide +kernel)) (isIns_P (by decide +kernel)) ⟨rows, road, g, rfl, rfl⟩
section
variable {Pd : PyData → Prop}
theorem up_int {i : Int} : UpD Pd (.int i) := .inl ⟨i, rfl⟩
theorem up_bl {c : Bool} : UpD Pd (.bool c) := .inr (.inr (.inl ⟨c, rfl⟩))
theorem up_str {z : Str} (h : PySem.PyData.strOk z = true) : UpD Pd (.str z) := .inr (.inl ⟨z, rfl, (shp_str h).ok (by decide)⟩)
theorem up_list {ds : List PyData} (hl : ds.length ≤ 1000) (h : ∀ x ∈ ds, Pd x) : UpD Pd (.list ds) := .inr (.inr (.inr ⟨ds, .inl rfl, hl, h⟩))
theorem up_C (c : Cell) : UpD (UpD Pd) (pyC c) := .inr (.inr (.inr ⟨_, .inr rfl, by exact Nat.le_of_ble_eq_true rfl, fun x hx => by
  rcases List.mem_cons.mp hx with rfl | hx
  · exact up_int
  rcases List.mem_cons.mp hx with rfl | hx
  · exact up_int
  cases hx⟩))
theorem up_Cs {cs : List Cell} (hl : cs.length ≤ 1000) : UpD (UpD (UpD Pd)) (pyCs cs) := up_list (by rw [List.length_map]; exact hl) fun x hx => by
  obtain ⟨c, _, rfl⟩ := List.mem_map.mp hx
  exact up_C c
theorem up_Ss {ss : List Str} (hl : ss.length ≤ 1000) (h : ∀ z ∈ ss, PySem.PyData.strOk z = true) : UpD (UpD Pd) (pySs ss) := up_list (by rw [List.length_map]; exact hl) fun x hx => by
  obtain ⟨c, hc, rfl⟩ := List.mem_map.mp hx
  exact up_str (h c hc)
theorem up_Rs {rows : Rows} (g : Good rows) : UpD (UpD (UpD Pd)) (pyRs rows) := up_list (by rw [List.length_map]; have := g.sh.h12; omega) fun x hx => by
  obtain ⟨r, hr, rfl⟩ := List.mem_map.mp hx
  exact up_Ss (by rw [g.sh.rect r hr]; have := g.sh.w12; omega) fun z hz => word_ok (g.wd r hr z hz)
theorem up_Ss3 {ss : List Str} (hl : ss.length ≤ 1000) (h : ∀ z ∈ ss, PySem.PyData.strOk z = true) : UpD (UpD (UpD Pd)) (pySs ss) := up_Ss hl h
end
theorem names_ok {rows : Rows} (g : Good rows) {ns : List Str} (h : Names rows ns) : ∀ z ∈ ns, PySem.PyData.strOk z = true := fun z hz => word_ok (word_of g ((h.mem z).mp hz))
theorem cutR_last {rs : List Rep} {r : Rep} : cutR (rs ++ [r]) none (some (-1)) = rs := by
  unfold cutR
  have e : HT.sIx (rs ++ [r]).length (rs ++ [r]).length (some (-1)) = rs.length := by
    show (if (-1 : Int) < 0 then ((-1 : Int) + (((rs ++ [r]).length : Nat) : Int)).toNat else min (-1 : Int).toNat (rs ++ [r]).length) = _
    rw [if_pos (by decide), List.length_append, List.length_singleton]
    omega
  rw [e]
  show ((rs ++ [r]).drop 0).take (rs.length - 0) = rs
  rw [List.drop_zero, Nat.sub_zero, List.take_left]
theorem is5 {X Y : Rows} {road : List Cell} {ns : List Str} {c : Bool} : ∀ v M, (rL [rRows X, rCells road, rRows Y, rStrs ns, rBl c]).P v M → (rD (.list [pyRs X, pyCs road, pyRs Y, pySs ns, .bool c])).P v M := is_disp (Rs := [rRows X, rCells road, rRows Y, rStrs ns, rBl c]) (ds := [pyRs X, pyCs road, pyRs Y, pySs ns, .bool c]) ⟨is_Rs, is_Cs, is_Rs, is_Ss, is_bl, True.intro⟩
theorem isR {X : Rows} : ∀ v M, (rRows X).P v M → (rD (pyRs X)).P v M := is_Rs
theorem is3 {X : Rows} {road : List Cell} {i : Int} : ∀ v M, (rL [rRows X, rCells road, rInt i]).P v M → (rD (.list [pyRs X, pyCs road, .int i])).P v M := is_disp (Rs := [rRows X, rCells road, rInt i]) (ds := [pyRs X, pyCs road, .int i]) ⟨is_Rs, is_Cs, is_int, True.intro⟩
theorem up5 {Pd : PyData → Prop} {X Y : Rows} {road : List Cell} {ns : List Str} {c : Bool} (g1 : Good X) (g2 : Good Y) (l1 : road.length ≤ 1000) (l2 : ns.length ≤ 1000) (h : ∀ z ∈ ns, PySem.PyData.strOk z = true) : UpD (UpD (UpD (UpD Pd))) (.list [pyRs X, pyCs road, pyRs Y, pySs ns, .bool c]) := up_list (by exact Nat.le_of_ble_eq_true rfl) fun x hx => by
  rcases List.mem_cons.mp hx with rfl | hx
  · exact up_Rs g1
  rcases List.mem_cons.mp hx with rfl | hx
  · exact up_Cs l1
  rcases List.mem_cons.mp hx with rfl | hx
  · exact up_Rs g2
  rcases List.mem_cons.mp hx with rfl | hx
  · exact up_Ss3 l2 h
  rcases List.mem_cons.mp hx with rfl | hx
  · exact up_bl
  cases hx
theorem up3 {Pd : PyData → Prop} {X : Rows} {road : List Cell} {i : Int} (g1 : Good X) (l1 : road.length ≤ 1000) : UpD (UpD (UpD (UpD Pd))) (.list [pyRs X, pyCs road, .int i]) := up_list (by exact Nat.le_of_ble_eq_true rfl) fun x hx => by
  rcases List.mem_cons.mp hx with rfl | hx
  · exact up_Rs g1
  rcases List.mem_cons.mp hx with rfl | hx
  · exact up_Cs l1
  rcases List.mem_cons.mp hx with rfl | hx
  · exact up_int
  cases hx
def CT_L_law_made (C : Addr) : Option Addr → List Rep → Rep → Prop := fun _ rs R => ∃ rows road, PlatOk rows road ∧ rs = [rRows rows, rCells road] ∧ R = rPlat C rows road
theorem len_L_law_made {C : Addr} : ∀ b rs R, CT_L_law_made C b rs R → rs.length = 2 := fun _ _ _ ⟨_, _, _, e, _⟩ => by rw [e]; rfl
theorem sc_L_law_made : FnScope ["_law_rows", "_law_road", "_law_row"] ["_law_rows", "_law_road"] K9H.d_L_law_made.scope := ⟨rfl, rfl, rfl, by decide +kernel, rfl, by decide +kernel, by decide +kernel⟩
theorem c_L_law_made (X : K.In hp) (G : hp.Ns mainGlobals mg) (c : K9H.Sy K) : Cal P w K mg base 11 "_law_made" (SpD (CT_L_law_made (He.ga K "Plat"))) [] := by
  obtain ⟨fd, F⟩ := c.def_ 49 (d := K9H.d_L_law_made) rfl
  have F : FunD K K9H.d_L_law_made.name K9H.d_L_law_made.qual K9H.d_L_law_made.params K9H.d_L_law_made.body K9H.d_L_law_made.scope [] [] _ fd := F
  have T := txt X G c
  have M_init := c_P_init (P := P) (w := w) (base := base) X G c
  have sc := sc_L_law_made
  refine calD F (He.glo_ok X G (c.fact 37 (f := .glo "_law_made") rfl)) (bindsD F fun _ _ _ _ _ _ us hl => match us, hl with | [_, _], _ => rfl) (fnD (ps := ["_law_rows", "_law_road"]) F sc (CT_L_law_made (He.ga K "Plat")) ?_ ?_)
  case refine_1 => exact len_L_law_made
  refine fun cdv A outer s H E hr => ⟨_, (pss_one (ps_ret (pe_mkP M_init hr (by decide) (by rfl) (pa_cons (pe_lc (own := [("_law_row", 2)]) rfl sc.nd (pi_listK (K := K) rfl (pv 0)) (blkOk_by (by kernel_rfl)) (fun _ _ _ _ _ => (pg_name (i := 2) sc.nd rfl (by first | exact Or.inl rfl | exact Or.inr rfl))) (fun _ _ _ _ _ => pts_nil) (fun _ _ _ _ _ => (pe_callTy (T := "list") (call_list_ofK (K := K) rfl) (by rfl) T.z_list (by decide +kernel) (pa_cons (pv 2) pa_nil)))) pa_nil) (pk_cons (pe_callTy (T := "list") (call_list_ofK (K := K) rfl) (by rfl) T.z_list (by decide +kernel) (pa_cons (pv 1) pa_nil)) pk_nil)))), fun B Q rs R hC hgs k => ?_⟩
  obtain ⟨rows, road, ok, rfl, rfl⟩ := hC
  have h12 := ok.good.sh.h12
  exact w_ret (R := rPlat (He.ga K "Plat") rows road) (en_make (Ra := [rRows rows]) (Rk := [rCells road]) (ea_cons (en_lcA rows rStrs (src_list (ev_var rfl)) (fun _ _ => gt_name) (fun _ h => h) (by omega) (fun r hr => (en_list (ev_var rfl) lat_data).ev)).ev ea_nil) (ea_cons (en_list (ev_var rfl) lat_data).ev ea_nil) rfl rfl (fun x vs zs M h1 h2 => ⟨vs ++ zs, rfl, All2.app h2 h1⟩) ⟨rows, road, ok, rfl, rfl⟩).ev k
def CT_L_law_divided_so (C : Addr) : Option Addr → List Rep → Rep → Prop := fun b rs R => ∃ (a : Addr) (rows : Rows) (road : List Cell) (ns : List Str) (n : Str) (cs : List Cell) (new : Str), b = some a ∧ DivOk rows road n cs new ∧ Names rows ns ∧ ns.length ≤ 12 ∧ (∃ ms, Names (anew rows cs new) ms) ∧ rs = [rAt a, rPlat C rows road, rL [rRows rows, rCells road, rStrs ns], rL [rStr n, rCells cs, rStr new], rRows (anew rows cs new)] ∧ R = rBl true
theorem len_L_law_divided_so {C : Addr} : ∀ b rs R, CT_L_law_divided_so C b rs R → rs.length = 5 := fun _ _ _ ⟨_, _, _, _, _, _, _, _, _, _, _, _, e, _⟩ => by rw [e]; rfl
theorem sc_L_law_divided_so : FnScope ["_law_bag_here", "_law_plat", "_law_parts", "_law_division", "_law_due", "_law_rows", "_law_road", "_law_names_here", "_law_name", "_law_cells", "_law_new", "_law_handed", "_law_late", "_law_kept", "_law_back", "_law_two", "_law_turned"] ["_law_bag_here", "_law_plat", "_law_parts", "_law_division", "_law_due"] K9H.d_L_law_divided_so.scope := ⟨rfl, rfl, rfl, by decide +kernel, rfl, by decide +kernel, by decide +kernel⟩
theorem c_L_law_divided_so (X : K.In hp) (G : hp.Ns mainGlobals mg) (c : K9H.Sy K) : Cal P w K mg base 12 "_law_divided_so" (SpD (CT_L_law_divided_so (He.ga K "Plat"))) [] := by
  obtain ⟨fd, F⟩ := c.def_ 59 (d := K9H.d_L_law_divided_so) rfl
  have F : FunD K K9H.d_L_law_divided_so.name K9H.d_L_law_divided_so.qual K9H.d_L_law_divided_so.params K9H.d_L_law_divided_so.body K9H.d_L_law_divided_so.scope [] [] _ fd := F
  have T := txt X G c
  have C_L_law_mixed := c_L_law_mixed (P := P) (w := w) (base := base) X G c
  have C_L_law_same := c_L_law_same (P := P) (w := w) (base := base) X G c
  have C_L_law_named_anew := c_L_law_named_anew (P := P) (w := w) (base := base) X G c
  have C_L_law_cells_of := c_L_law_cells_of (P := P) (w := w) (base := base) X G c
  have M_divided := c_P_divided (P := P) (w := w) (base := base) X G c
  have MK_divided := ck_P_divided (P := P) (w := w) (base := base) X G c
  have M_names := c_P_names (P := P) (w := w) (base := base) X G c
  have M_rows := c_P_rows (P := P) (w := w) (base := base) X G c
  have M_road := c_P_road (P := P) (w := w) (base := base) X G c
  have M_area := c_P_area (P := P) (w := w) (base := base) X G c
  have M_united := c_P_united (P := P) (w := w) (base := base) X G c
  have MK_united := ck_P_united (P := P) (w := w) (base := base) X G c
  have M_border := c_P_border (P := P) (w := w) (base := base) X G c
  have M_outline := c_P_outline (P := P) (w := w) (base := base) X G c
  have M_eq := c_P_eq (P := P) (w := w) (base := base) X G c
  have sc := sc_L_law_divided_so
  refine calD F (He.glo_ok X G (c.fact 47 (f := .glo "_law_divided_so") rfl)) (bindsD F fun _ _ _ _ _ _ us hl => match us, hl with | [_, _, _, _, _], _ => rfl) (fnD (ps := ["_law_bag_here", "_law_plat", "_law_parts", "_law_division", "_law_due"]) F sc (CT_L_law_divided_so (He.ga K "Plat")) ?_ ?_)
  case refine_1 => exact len_L_law_divided_so
  refine fun cdv A outer s H E hr => ⟨_, (pss_cons (ps_asg (pv 2) (pg_unlK (K := K) (n := 3) rfl rfl (pgs_cons (pg_name (i := 5) sc.nd rfl (by first | exact Or.inl rfl | exact Or.inr rfl)) (pgs_cons (pg_name (i := 6) sc.nd rfl (by first | exact Or.inl rfl | exact Or.inr rfl)) (pgs_cons (pg_name (i := 7) sc.nd rfl (by first | exact Or.inl rfl | exact Or.inr rfl)) pgs_nil)))))
  (pss_cons (ps_asg (pv 3) (pg_unlK (K := K) (n := 3) rfl rfl (pgs_cons (pg_name (i := 8) sc.nd rfl (by first | exact Or.inl rfl | exact Or.inr rfl)) (pgs_cons (pg_name (i := 9) sc.nd rfl (by first | exact Or.inl rfl | exact Or.inr rfl)) (pgs_cons (pg_name (i := 10) sc.nd rfl (by first | exact Or.inl rfl | exact Or.inr rfl)) pgs_nil)))))
  (pss_cons (ps_set (i := 11) sc.nd rfl (by first | exact Or.inl rfl | exact Or.inr rfl) (pe_c C_L_law_mixed hr (by decide) (by rfl) (pa_cons (pv 0) (pa_cons (pv 9) pa_nil))))
  (pss_cons (ps_par (i := 12) (j := 13) rfl sc.nd rfl rfl (by decide) rfl rfl (pa_cons (pe_mt M_divided hr (by decide) (pv 1) (pa_cons (pv 8) (pa_cons (pv 11) (pa_cons (pv 10) pa_nil)))) (pa_cons (pe_callTy (T := "list") (call_list_ofK (K := K) rfl) (by rfl) T.z_list (by decide +kernel) (pa_cons (pv 11) pa_nil)) pa_nil)) (by rfl))
  (pss_cons (ps_expr (pe_bm PySem.F.plainAttrs_list PySem.F.slot_list_append PySem.F.type_list_append mt_append (pv 11) (pa_cons pe_non pa_nil)))
  (pss_cons (ps_if (pt_not (pt_val (pe_c C_L_law_same hr (by decide) (by rfl) (pa_cons (pe_lst (pa_cons (pe_mt0 M_rows hr (by decide) (pv 12)) (pa_cons (pe_mt0 M_road hr (by decide) (pv 12)) (pa_cons (pe_mt0 M_rows hr (by decide) (pv 1)) (pa_cons (pe_mt0 M_names hr (by decide) (pv 1)) (pa_cons (pe_cmpR (op_eqDK (K := K) (hu64_of hr) rfl) (pv 13) (pe_slice (sl_listK (K := K) rfl) (pv 11) po_none (po_some (pe_un un_neg pe_int))) (nomark _)) pa_nil)))))) (pa_cons (pe_lst (pa_cons (pv 4) (pa_cons (pv 6) (pa_cons (pv 5) (pa_cons (pv 7) (pa_cons pe_bl pa_nil)))))) pa_nil)))))
  (pss_one (ps_ret pe_bl))
  pss_nil)
  (pss_cons (ps_if (PW.pt (pw_or (pt_cmpR (op_neP M_eq T.ne hr (by decide)) (pv 12) (pe_mkw MK_divided hr (by decide) (pv 1) (pk_cons (pv 10) (pk_cons (pe_callTy (T := "tuple") (call_tuple_ofK (K := K) rfl) (by rfl) T.z_tuple (by decide +kernel) (pa_cons (pv 13) pa_nil)) (pk_cons (pv 8) pk_nil)))) (nomark _)) (pw_or1 (pt_cmpR op_ne (pe_op op_add (pe_mt M_area hr (by decide) (pv 12) (pa_cons (pv 8) pa_nil)) (pe_mt M_area hr (by decide) (pv 12) (pa_cons (pv 10) pa_nil))) (pe_mt M_area hr (by decide) (pv 1) (pa_cons (pv 8) pa_nil)) (nomark _)))))
  (pss_one (ps_ret pe_bl))
  pss_nil)
  (pss_cons (ps_set (i := 14) sc.nd rfl (by first | exact Or.inl rfl | exact Or.inr rfl) (pe_mt M_united hr (by decide) (pv 12) (pa_cons (pv 8) (pa_cons (pv 10) pa_nil))))
  (pss_cons (ps_if (PW.pt (pw_or (pt_cmpR (op_neP M_eq T.ne hr (by decide)) (pv 14) (pv 1) (nomark _)) (pw_or (pt_cmpR (op_neP M_eq T.ne hr (by decide)) (pe_mkw MK_united hr (by decide) (pv 12) (pk_cons (pv 10) (pk_cons (pv 8) pk_nil))) (pv 14) (nomark _)) (pw_or1 (pt_not (pt_val (pe_c C_L_law_same hr (by decide) (by rfl) (pa_cons (pe_mt0 M_rows hr (by decide) (pv 12)) (pa_cons (pv 4) pa_nil)))))))))
  (pss_one (ps_ret pe_bl))
  pss_nil)
  (pss_cons (ps_for PassesOwn.never rfl (pi_listK (K := K) rfl (pv 7)) (pg_name (i := 15) sc.nd rfl (by first | exact Or.inl rfl | exact Or.inr rfl))
  (pss_one (ps_if (PW.pt (pw_and (pt_cmpR op_ne (pv 15) (pv 8) (nomark _)) (pw_and1 (pt_cmpR op_ne (pe_op op_add (pe_mt M_border hr (by decide) (pv 12) (pa_cons (pv 8) (pa_cons (pv 15) pa_nil))) (pe_mt M_border hr (by decide) (pv 12) (pa_cons (pv 10) (pa_cons (pv 15) pa_nil)))) (pe_mt M_border hr (by decide) (pv 1) (pa_cons (pv 8) (pa_cons (pv 15) pa_nil))) (nomark _)))))
  (pss_one (ps_ret pe_bl))
  pss_nil)))
  (pss_cons (ps_if (pt_cmpR op_ne (pe_op op_sub (pe_op op_add (pe_mt M_outline hr (by decide) (pv 12) (pa_cons (pv 8) pa_nil)) (pe_mt M_outline hr (by decide) (pv 12) (pa_cons (pv 10) pa_nil))) (pe_op op_mul pe_int (pe_mt M_border hr (by decide) (pv 12) (pa_cons (pv 8) (pa_cons (pv 10) pa_nil))))) (pe_mt M_outline hr (by decide) (pv 1) (pa_cons (pv 8) pa_nil)) (nomark _))
  (pss_one (ps_ret pe_bl))
  pss_nil)
  (pss_cons (ps_set (i := 16) sc.nd rfl (by first | exact Or.inl rfl | exact Or.inr rfl) (pe_mt M_united hr (by decide) (pv 12) (pa_cons (pv 10) (pa_cons (pv 8) pa_nil))))
  (pss_one (ps_ret (pe_c C_L_law_same hr (by decide) (by rfl) (pa_cons (pe_mt0 M_rows hr (by decide) (pv 16)) (pa_cons (pe_c C_L_law_named_anew hr (by decide) (by rfl) (pa_cons (pv 5) (pa_cons (pe_c C_L_law_cells_of hr (by decide) (by rfl) (pa_cons (pv 5) (pa_cons (pv 8) pa_nil))) (pa_cons (pv 10) pa_nil)))) pa_nil))))))))))))))))), fun B Q rs R hC hgs k => ?_⟩
  obtain ⟨a, rows, road, ns, n, cs, new, hb, dv, hns, l12, hms, rfl, rfl⟩ := hC
  have ok := dv.ok
  have s := ok.good.sh
  have rl := ok.rlen
  have lcs : cs.length ≤ 144 := Nat.le_trans (nd_len dv.nd dv.sub) (cells144 s n)
  have nb := dv.nb
  have ok2 := dv.ok2
  have s2 := ok2.good.sh
  have eb := div_back s dv.fr dv.sub
  have et := div_turn (new := new) s dv.nn dv.sub
  have in1 := nb.in1 s2
  have in2 := nb.in2 s2
  refine q_asgG (ev_var rfl) (gt_unl3 gt_name gt_name gt_name) ?_
  refine q_asgG (ev_var rfl) (gt_unl3 gt_name gt_name gt_name) ?_
  refine q_new (en_call (ea_cons (ev_var rfl) (ea_cons (ev_var rfl) ea_nil)) ⟨a, cs.map rCell, hb, by rw [List.length_map]; omega, rfl, rfl⟩) fun p => ?_
  refine n_hex (n := 0) rfl fun l hl => ?_
  obtain ⟨ds, pm, rfl⟩ := perm_map hl
  have dv2 := dv.perm pm
  have eanew : anew rows ds new = anew rows cs new := anew_perm fun c => pm.mem_iff
  have lds : ds.length ≤ 144 := by rw [pm.length_eq]; exact lcs
  refine q_par (Ra := rPlat (He.ga K "Plat") (anew rows cs new) road) (Rb := rCells ds) (ea_cons (ev_mtH (hu := [(p, hL (ds.map rCell))]) (ev_var rfl) (isIns_P (by decide +kernel)) (ea_cons (ev_var rfl) (ea_cons (ev_var rfl) (ea_cons (ev_var rfl) ea_nil))) (fun x hx => hx) (List.nodup_cons.mpr ⟨fun q => (nomatch q), List.nodup_nil⟩) ⟨rows, road, n, ds, new, rAt p, dv2, .inr ⟨p, rfl, rfl⟩, rfl, by rw [eanew]⟩) (ea_cons (en_list (ev_var rfl) (lat_hot List.mem_cons_self)).ev ea_nil)) ?_
  refine w_app (n := 0) (R := rNon) rfl (ev_var rfl) ev_c (by rw [List.length_map]; omega) ?_
  have nso := names_ok ok.good hns
  refine q_no (et_to (et_not (et_B (ev_call (ea_cons (EV.up (ev_lst (ea_cons (ev_rowsP s2 (ev_var rfl)) (ea_cons (ev_roadP (ev_var rfl)) (ea_cons (ev_rowsP s (ev_var rfl)) (ea_cons (ev_namesP hns (ev_var rfl)) (ea_cons (ev_bl (ev_opV (R := rBl (PyData.eqv (pyCs ds) (pyCs ds))) (ev_var rfl) (en_sliceH (h := hL (ds.map rCell)) (ev_var rfl) (lat_hot List.mem_cons_self) eo_none (eo_int (ev_neg ev_c)) (fun lo hi e1 e2 vs M al => ⟨vs, rfl, by
    subst e1 e2
    rw [cutR_last] at al
    exact al⟩)).ev (rv_eqD dp_Cs dp_Cs ((shp_Cs ds).ok (by decide)) ((shp_Cs ds).ok (by decide)))) (eqv_Cs ds)) ea_nil)))))) is5) (ea_cons (EV.up (ev_lst (ea_cons (ev_var rfl) (ea_cons (ev_var rfl) (ea_cons (ev_var rfl) (ea_cons (ev_var rfl) (ea_cons ev_c ea_nil)))))) is5) ea_nil)) ⟨.list [pyRs (anew rows cs new), pyCs road, pyRs rows, pySs ns, .bool true], up5 ok2.good ok.good (by omega) (by omega) nso, rfl, rfl⟩))) rfl) ?_
  have ar := area_uni s2 dv.nn
  rw [eb] at ar
  refine q_no (et_to (et_or (et_test (ev_opV (ev_var rfl) (ev_mtHK (m := "divided") (Rs := [rPlat (He.ga K "Plat") rows road, rStr n, rT (ds.map rCell), rStr new]) (R := rPlat (He.ga K "Plat") (anew rows cs new) road) (ev_var rfl) (isIns_P (by decide +kernel)) (ea_cons (ev_var rfl) (ea_cons (ev_tupOf (ev_var rfl)) (ea_cons (ev_var rfl) ea_nil))) (fun x zs M hx hz => by
    obtain ⟨y, z, u, rfl, h1, h2, h3⟩ := all_3 hz
    exact ⟨hx, h3, h2, h1, True.intro⟩) ⟨rows, road, n, ds, new, _, dv2, .inl ⟨rfl, .inr rfl⟩, rfl, by rw [eanew]⟩) (rv_neEq ok2.good))) fun _ => et_test (ev_opV (ev_opV (ev_areaP in1 (ev_var rfl) (ev_var rfl)) (ev_areaP in2 (ev_var rfl) (ev_var rfl)) rv_I0) (ev_areaP dv.hn (ev_var rfl) (ev_var rfl)) (rv_ne rfl))) ?_) ?_
  · show (false || !decide (_ = _)) = false
    rw [decide_eq_true (congrArg V.int (by omega))]
    rfl
  refine q_asg (ev_uniP ok2 nb hms eb (ev_var rfl) (ev_var rfl) (ev_var rfl)) ?_
  refine q_no (et_to (et_or (et_test (ev_opV (ev_var rfl) (ev_var rfl) (rv_neEq ok.good))) fun _ => et_or (et_test (ev_opV (ev_uniPK ok2 nb hms eb (ev_var rfl) (ev_var rfl) (ev_var rfl)) (ev_var rfl) (rv_neEq ok.good))) fun _ => et_not (et_B (ev_call (ea_cons (EV.up (ev_rowsP s2 (ev_var rfl)) isR) (ea_cons (EV.up (ev_var rfl) isR) ea_nil)) ⟨pyRs (anew rows cs new), up_Rs ok2.good, rfl, rfl⟩))) rfl) ?_
  refine q_for (ys := ns) (F := rStr) (src_list (ev_var rfl)) (fun (i : Nat) (u : Unit) => True) (fun _ => [(p, hL (ds.map rCell ++ [rNon]))]) (fun _ => [some (rAt a), some (rPlat (He.ga K "Plat") rows road), some (rL [rRows rows, rCells road, rStrs ns]), some (rL [rStr n, rCells cs, rStr new]), some (rRows (anew rows cs new)), some (rRows rows), some (rCells road), some (rStrs ns), some (rStr n), some (rCells cs), some (rStr new), some (rAt p), some (rPlat (He.ga K "Plat") (anew rows cs new) road), some (rCells ds), some (rPlat (He.ga K "Plat") rows road), none, none]) () True.intro rfl (by exact ⟨rfl, rfl, rfl, rfl, rfl, rfl, rfl, rfl, rfl, rfl, rfl, rfl, rfl, rfl, rfl, True.intro⟩) (fun _ _ => gt_name) ?_ ?_
  · rintro gs i two ⟨⟩ h2 _
    have hin := (hns.mem two).mp (List.mem_of_getElem? h2)
    refine w_no (et_to (et_and (et_test (ev_opV (ev_var rfl) (ev_var rfl) (rv_ne rfl))) fun hne => et_test (ev_opV (ev_opV (ev_bordP in1 (dv.inO hin) (ev_var rfl) (ev_var rfl) (ev_var rfl)) (ev_bordP in2 (dv.inO hin) (ev_var rfl) (ev_var rfl) (ev_var rfl)) rv_I0) (ev_bordP dv.hn hin (ev_var rfl) (ev_var rfl) (ev_var rfl)) (rv_ne rfl))) ?_) ?_
    · by_cases e : two = n
      · rw [decide_eq_true (congrArg V.str e)]
        rfl
      · have bu := bord_uni s2 dv.nn (o := two) e (fun q => dv.fr (q ▸ hin))
        rw [eb] at bu
        have h : ((bord (anew rows cs new) n two : Nat) : Int) + ((bord (anew rows cs new) new two : Nat) : Int) = ((bord rows n two : Nat) : Int) := by omega
        rw [decide_eq_true (congrArg V.int h)]
        exact Bool.and_false _
    · dsimp only
      exact n_inv () True.intro rfl (by exact ⟨rfl, rfl, rfl, rfl, rfl, rfl, rfl, rfl, rfl, rfl, rfl, rfl, rfl, rfl, rfl, True.intro⟩)
  · rintro ⟨⟩ _
    have so := side_uni s2 dv.nn
    rw [eb] at so
    refine q_no (et_to (et_test (ev_opV (ev_opV (ev_opV (ev_sideP s2 in1 (ev_var rfl) (ev_var rfl)) (ev_sideP s2 in2 (ev_var rfl) (ev_var rfl)) rv_I0) (ev_opV ev_c (ev_bordP in1 in2 (ev_var rfl) (ev_var rfl) (ev_var rfl)) (rv_I (Or.inl (by decide)))) rv_I0) (ev_sideP s dv.hn (ev_var rfl) (ev_var rfl)) (rv_ne rfl))) ?_) ?_
    · rw [decide_eq_true (congrArg V.int so.symm)]
      rfl
    have ok3 := platOk_uni ok2 nb.symm hms
    rw [et] at ok3
    refine q_asg (ev_uniP ok2 nb.symm hms et (ev_var rfl) (ev_var rfl) (ev_var rfl)) ?_
    exact w_ret (R := rBl true) (ev_call (ea_cons (EV.up (ev_rowsP ok3.good.sh (ev_var rfl)) isR) (ea_cons (EV.up (ev_call (ea_cons (ev_var rfl) (ea_cons (ev_call (ea_cons (ev_var rfl) (ea_cons (ev_var rfl) ea_nil)) ⟨rows, n, s, rfl, rfl⟩) (ea_cons (ev_var rfl) ea_nil))) ⟨rows, cellsOf rows n, new, s, rfl, rfl⟩) isR) ea_nil)) ⟨pyRs (anew rows (cellsOf rows n) new), up_Rs ok3.good, rfl, rfl⟩) k

end
end K9W
end
section
set_option Elab.async false
set_option linter.all false
set_option maxRecDepth 100000
set_option maxHeartbeats 4000000
namespace K9W
open PySem PySem.Spec PyProof.Rows L2 L2.K9R L2.K9A K9 K9M
open RZ (pi_zipA)
open C8 (Cal Met pe_c pe_mt pe_mt0 InsC call_isC pe_gc)
section
variable {P : Program} {w : World} {K : PySem.W.Frag} {hp : Heap} {mg : Str → Option Value} {base : Heap}

theorem q_whenW {B : Bs} {hs : Hs} {es : Es} {tt : TT} {t1 tz : TS} {D : Ends} {P : Bool → Prop} (h : ET B.b hs es tt P) (k1 : P true → ∀ D' : Ends, N B hs es D'.nx → N B hs es (t1 D')) (k2 : N B hs es (tz D)) : N B hs es (tSeq (tIfS tt t1 tNext) tz D) := q_whenX h (fun p => k1 p { D with nx := tz D } k2) (fun _ => k2)
theorem rc_all1 {b : Option Addr} {hs : Hs} {α : Type} {L : List α} : RC1 b hs (rAll K) [rL (L.map fun _ => rBl true)] (rBl true) := by
  have e : (L.map fun _ => rBl true) = (L.map fun _ => true).map rBl := by
    rw [List.map_map]
    rfl
  rw [e]
  have q := rc_all (K := K) (b := b) (hs := hs) (cs := L.map fun _ => true)
  rw [allTrue] at q
  exact q
theorem part_one {own : List Cell} (nd : own.Nodup) (hl : 20 ≤ own.length) : Part own (cutA own none (some 1)) := by
  refine ⟨?_, fun c hc => mem_cutA hc, fun _ => ?_⟩
  · unfold cutA
    exact ((List.take_sublist _ _).trans (List.drop_sublist _ _)).nodup nd
  · have h1 : (cutA own none (some 1)).length ≤ 1 := by
      unfold cutA
      rw [List.length_take]
      have : HT.sIx own.length own.length (some 1) ≤ 1 := by
        rw [show (1 : Int) = ((1 : Nat) : Int) from rfl, HT.sIx_nat]
        exact Nat.min_le_left _ _
      omega
    refine Classical.byContradiction fun q => ?_
    have : own.length ≤ (cutA own none (some 1)).length := nd_len nd fun x hx => Classical.byContradiction fun z => q ⟨x, hx, z⟩
    omega
theorem sc_law : FnScope ["_law_script", "_law_bag_here", "_law_turn", "_law_rows", "_law_road", "_law_plat", "_law_names_here", "_law_name", "_law_own", "_law_new", "_law_cells", "_law_due", "_law_one", "_law_two", "_law_both", "_law_other"] ["_law_script"] K9H.d_law.scope := ⟨rfl, rfl, rfl, by decide +kernel, rfl, by decide +kernel, by decide +kernel⟩
theorem o_law (X : K.In hp) (G : hp.Ns mainGlobals mg) (c : K9H.Sy K) {fd : FuncData} (F : FunD K K9H.d_law.name K9H.d_law.qual K9H.d_law.params K9H.d_law.body K9H.d_law.scope [] [] (He.fAd K K9H.d_law.at_) fd) : FnOk P w K mg base CX0 40 (He.fAd K K9H.d_law.at_) fd ["_law_script"] (SpL K) := by
  have T := txt X G c
  have C_L_law_bag := c_L_law_bag (P := P) (w := w) (base := base) X G c
  have C_L_law_map := c_L_law_map (P := P) (w := w) (base := base) X G c
  have C_L_law_named := c_L_law_named (P := P) (w := w) (base := base) X G c
  have C_L_law_made := c_L_law_made (P := P) (w := w) (base := base) X G c
  have C_L_law_pick := c_L_law_pick (P := P) (w := w) (base := base) X G c
  have C_L_law_fresh := c_L_law_fresh (P := P) (w := w) (base := base) X G c
  have C_L_law_cells_of := c_L_law_cells_of (P := P) (w := w) (base := base) X G c
  have C_L_law_part_of := c_L_law_part_of (P := P) (w := w) (base := base) X G c
  have C_L_law_named_anew := c_L_law_named_anew (P := P) (w := w) (base := base) X G c
  have C_L_law_plat_fault := c_L_law_plat_fault (P := P) (w := w) (base := base) X G c
  have C_L_law_divided_so := c_L_law_divided_so (P := P) (w := w) (base := base) X G c
  have C_L_law_mixed := c_L_law_mixed (P := P) (w := w) (base := base) X G c
  have C_L_law_possible := c_L_law_possible (P := P) (w := w) (base := base) X G c
  have C_L_law_same := c_L_law_same (P := P) (w := w) (base := base) X G c
  have M_united := c_P_united (P := P) (w := w) (base := base) X G c
  have M_len := c_P_len (P := P) (w := w) (base := base) X G c
  have M_road := c_P_road (P := P) (w := w) (base := base) X G c
  have M_rows := c_P_rows (P := P) (w := w) (base := base) X G c
  have M_names := c_P_names (P := P) (w := w) (base := base) X G c
  have M_outline := c_P_outline (P := P) (w := w) (base := base) X G c
  have M_border := c_P_border (P := P) (w := w) (base := base) X G c
  have sc := sc_law
  refine fnL (ps := ["_law_script"]) F sc rfl ?_
  refine fun cdv A outer s H E hr => ⟨_, (pss_cons (ps_set (i := 1) sc.nd rfl (by first | exact Or.inl rfl | exact Or.inr rfl) (pe_c C_L_law_bag hr (by decide) (by rfl) (pa_cons (pv 0) pa_nil)))
  (pss_cons (ps_for PassesOwn.never rfl (pi_range1 (by rfl) T.z_range (pa_cons pe_int pa_nil)) (pg_name (i := 2) sc.nd rfl (by first | exact Or.inl rfl | exact Or.inr rfl))
  (pss_cons (ps_asg (pe_c C_L_law_map hr (by decide) (by rfl) (pa_cons (pv 1) (pa_cons pe_int pa_nil))) (pg_unlK (K := K) (n := 2) rfl rfl (pgs_cons (pg_name (i := 3) sc.nd rfl (by first | exact Or.inl rfl | exact Or.inr rfl)) (pgs_cons (pg_name (i := 4) sc.nd rfl (by first | exact Or.inl rfl | exact Or.inr rfl)) pgs_nil))))
  (pss_cons (ps_asg (pe_tup (pa_cons (pe_c C_L_law_made hr (by decide) (by rfl) (pa_cons (pv 3) (pa_cons (pv 4) pa_nil))) (pa_cons (pe_c C_L_law_named hr (by decide) (by rfl) (pa_cons (pv 3) pa_nil)) pa_nil))) (pg_tupK (K := K) (n := 2) rfl rfl (pgs_cons (pg_name (i := 5) sc.nd rfl (by first | exact Or.inl rfl | exact Or.inr rfl)) (pgs_cons (pg_name (i := 6) sc.nd rfl (by first | exact Or.inl rfl | exact Or.inr rfl)) pgs_nil))))
  (pss_cons (ps_set (i := 7) sc.nd rfl (by first | exact Or.inl rfl | exact Or.inr rfl) (pe_c C_L_law_pick hr (by decide) (by rfl) (pa_cons (pv 1) (pa_cons (pv 6) pa_nil))))
  (pss_cons (ps_par (i := 8) (j := 9) rfl sc.nd rfl rfl (by decide) rfl rfl (pa_cons (pe_c C_L_law_cells_of hr (by decide) (by rfl) (pa_cons (pv 3) (pa_cons (pv 7) pa_nil))) (pa_cons (pe_c C_L_law_fresh hr (by decide) (by rfl) (pa_cons (pv 1) (pa_cons (pv 6) pa_nil))) pa_nil)) (by rfl))
  (pss_cons (ps_set (i := 10) sc.nd rfl (by first | exact Or.inl rfl | exact Or.inr rfl) (pe_ifExp (pt_cmpR op_lt (pe_callB (id := "len") (call_lenK (K := K) rfl) (by rfl) T.z_len (by decide +kernel) (pa_cons (pv 8) pa_nil)) pe_int (nomark _)) (pe_c C_L_law_part_of hr (by decide) (by rfl) (pa_cons (pv 1) (pa_cons (pv 8) pa_nil))) (pe_slice (sl_listK (K := K) rfl) (pv 8) po_none (po_some pe_int))))
  (pss_cons (ps_set (i := 11) sc.nd rfl (by first | exact Or.inl rfl | exact Or.inr rfl) (pe_c C_L_law_named_anew hr (by decide) (by rfl) (pa_cons (pv 3) (pa_cons (pv 10) (pa_cons (pv 9) pa_nil)))))
  (pss_cons (ps_if (PW.pt (pw_and (pt_cmpR (op_neDK (K := K) (hu64_of hr) rfl) (pv 10) (pe_lst pa_nil) (nomark _)) (pw_and1 (pt_cmpR op_isNo (pe_c C_L_law_plat_fault hr (by decide) (by rfl) (pa_cons (pv 11) (pa_cons (pv 4) pa_nil))) pe_non (nomark _)))))
  (pss_one (ps_if (pt_not (pt_val (pe_c C_L_law_divided_so hr (by decide) (by rfl) (pa_cons (pv 1) (pa_cons (pv 5) (pa_cons (pe_lst (pa_cons (pv 3) (pa_cons (pv 4) (pa_cons (pv 6) pa_nil)))) (pa_cons (pe_lst (pa_cons (pv 7) (pa_cons (pv 10) (pa_cons (pv 9) pa_nil)))) (pa_cons (pv 11) pa_nil))))))))
  (pss_one (ps_ret pe_bl))
  pss_nil))
  pss_nil)
  (pss_one (ps_for PassesOwn.never rfl (pi_listK (K := K) rfl (pe_slice (sl_listK (K := K) rfl) (pe_c C_L_law_mixed hr (by decide) (by rfl) (pa_cons (pv 1) (pa_cons (pe_c C_L_law_possible hr (by decide) (by rfl) (pa_cons (pv 3) pa_nil)) pa_nil))) po_none (po_some pe_int))) (pg_tupK (K := K) (n := 2) rfl rfl (pgs_cons (pg_name (i := 12) sc.nd rfl (by first | exact Or.inl rfl | exact Or.inr rfl)) (pgs_cons (pg_name (i := 13) sc.nd rfl (by first | exact Or.inl rfl | exact Or.inr rfl)) pgs_nil)))
  (pss_cons (ps_set (i := 14) sc.nd rfl (by first | exact Or.inl rfl | exact Or.inr rfl) (pe_mt M_united hr (by decide) (pv 5) (pa_cons (pv 12) (pa_cons (pv 13) pa_nil))))
  (pss_cons (ps_if (pt_not (pt_val (pe_c C_L_law_same hr (by decide) (by rfl) (pa_cons (pe_lst (pa_cons (pe_mt0 M_rows hr (by decide) (pv 14)) (pa_cons (pe_mt0 M_road hr (by decide) (pv 14)) (pa_cons (pe_callB (id := "len") (call_lenP M_len hr (by decide)) (by rfl) T.z_len (by decide +kernel) (pa_cons (pv 14) pa_nil)) pa_nil)))) (pa_cons (pe_lst (pa_cons (pe_c C_L_law_named_anew hr (by decide) (by rfl) (pa_cons (pv 3) (pa_cons (pe_c C_L_law_cells_of hr (by decide) (by rfl) (pa_cons (pv 3) (pa_cons (pv 13) pa_nil))) (pa_cons (pv 12) pa_nil)))) (pa_cons (pv 4) (pa_cons (pe_op op_sub (pe_callB (id := "len") (call_lenK (K := K) rfl) (by rfl) T.z_len (by decide +kernel) (pa_cons (pv 6) pa_nil)) pe_int) pa_nil)))) pa_nil)))))
  (pss_one (ps_ret pe_bl))
  pss_nil)
  (pss_cons (ps_if (PW.pt (pw_or (pt_cmpR op_ne (pe_mt M_outline hr (by decide) (pv 14) (pa_cons (pv 12) pa_nil)) (pe_op op_sub (pe_op op_add (pe_mt M_outline hr (by decide) (pv 5) (pa_cons (pv 12) pa_nil)) (pe_mt M_outline hr (by decide) (pv 5) (pa_cons (pv 13) pa_nil))) (pe_op op_mul pe_int (pe_mt M_border hr (by decide) (pv 5) (pa_cons (pv 12) (pa_cons (pv 13) pa_nil))))) (nomark _)) (pw_or1 (pt_cmpR (op_neDK (K := K) (hu64_of hr) rfl) (pe_mt0 M_names hr (by decide) (pv 5)) (pv 6) (nomark _)))))
  (pss_one (ps_ret pe_bl))
  pss_nil)
  (pss_one (ps_if (pt_not (pt_val (pe_callB (id := "all") (cr_allK (K := K) rfl rfl) (by rfl) T.z_all (by decide +kernel) (pa_cons (pe_lc (own := [("_law_other", 15)]) rfl sc.nd (pi_listK (K := K) rfl (pe_mt0 M_names hr (by decide) (pv 14))) (blkOk_by (by kernel_rfl)) (fun _ _ _ _ _ => (pg_name (i := 15) sc.nd rfl (by first | exact Or.inl rfl | exact Or.inr rfl))) (fun _ _ _ _ _ => (pts_one (pt_cmpR op_ne (pv 15) (pv 12) (nomark _)))) (fun _ _ _ _ _ => (pe_cmpR op_eq (pe_mt M_border hr (by decide) (pv 14) (pa_cons (pv 12) (pa_cons (pv 15) pa_nil))) (pe_op op_add (pe_mt M_border hr (by decide) (pv 5) (pa_cons (pv 12) (pa_cons (pv 15) pa_nil))) (pe_mt M_border hr (by decide) (pv 5) (pa_cons (pv 13) (pa_cons (pv 15) pa_nil)))) (nomark _)))) pa_nil))))
  (pss_one (ps_ret pe_bl))
  pss_nil)))))))))))))))
  (pss_one (ps_ret pe_bl)))), fun B Q ns hb hgs hl k => ?_⟩
  have good0 : BagOk ns 0 0 (12030 + 31 * (ns.length : Nat)) 0 := ⟨hl, Int.le_refl 0, Int.le_refl 0, by omega, by omega, Int.le_refl 0⟩
  refine q_new (en_call (ea_cons (ev_var rfl) ea_nil) ⟨ns, hl, rfl, rfl⟩) fun a => ?_
  refine n_bag good0 hb hgs fun H0 => ?_
  refine q_for (src_range (n := 2) (ea_cons ev_c ea_nil) (by decide) (by decide)) (fun (i : Nat) (u : Unit) => True) (fun _ => []) (fun _ => [some (rScript K ns), some (rAt a), none, none, none, none, none, none, none, none, none, none, none, none, none, none]) () True.intro rfl (by exact ⟨rfl, rfl, True.intro⟩) (fun _ _ => gt_name) ?_ ?_
  · rintro gs i turn ⟨⟩ _ _
    refine q_asgGX (fe := fun q es => (es.set 3 (some (rRows q.1))).set 4 (some (rCells q.2))) (ev_call (ea_cons (ev_var rfl) (ea_cons ev_c ea_nil)) ⟨a, rfl, rfl, rfl⟩) (fun q _ => gt_unl2 gt_name gt_name) fun q hq => ?_
    obtain ⟨rows, road⟩ := q
    have gm : GoodMap rows road := hq
    have ok := platOk_map gm
    have g := ok.good
    have s := g.sh
    have rl := ok.rlen
    refine q_asgG (R := rT [rPlat (He.ga K "Plat") rows road, rEx (Names rows) rStrs]) (ev_tup (ea_cons (ev_call (ea_cons (ev_var rfl) (ea_cons (ev_var rfl) ea_nil)) ⟨rows, road, ok, rfl, rfl⟩) (ea_cons (ev_call (ea_cons (ev_var rfl) ea_nil) ⟨rows, s, rfl, rfl⟩) ea_nil))) (gt_tup2 gt_name gt_name) ?_
    refine n_ex (i := 6) rfl fun nms hns => ?_
    have n12 := ok.few nms hns
    have nso := names_ok g hns
    have nne : 1 ≤ nms.length := by
      have hc : ((0 : Nat), (0 : Nat)).1 < rows.length := s.h1
      have : InR rows (atR rows (((0 : Nat) : Int), ((0 : Nat) : Int))) := (inR_iff s).mpr ⟨_, mem_allC.mpr ⟨0, 0, rfl, s.h1, s.w1⟩, rfl⟩
      exact List.length_pos_of_mem ((hns.mem _).mpr this)
    refine q_asgX (P := fun r : Rep => r ∈ nms.map rStr) (f := fun r => r) (ev_call (ea_cons (ev_var rfl) (ea_cons (ev_var rfl) ea_nil)) (.inl ⟨a, nms.map rStr, rfl, by rw [List.length_map]; exact nne, by rw [List.length_map]; omega, rfl, rfl⟩)) fun r hr => ?_
    obtain ⟨n, hn, rfl⟩ := List.mem_map.mp hr
    have hin := (hns.mem n).mp hn
    have own1 := nd_cellsOf rows n
    have c144 := cells144 s n
    have cne := cellsOf_ne s hin
    have cpos : 1 ≤ (cellsOf rows n).length := List.length_pos_iff.mpr cne
    refine q_par (Ra := rCells (cellsOf rows n)) (Rb := rEx (fun y : Str => IsWord y ∧ y ∉ nms) rStr) (ea_cons (ev_call (ea_cons (ev_var rfl) (ea_cons (ev_var rfl) ea_nil)) ⟨rows, n, s, rfl, rfl⟩) (ea_cons (ev_call (ea_cons (ev_var rfl) (ea_cons (ev_var rfl) ea_nil)) ⟨a, nms, rfl, by omega, fun z hz => word_of g ((hns.mem z).mp hz), rfl, rfl⟩) ea_nil)) ?_
    refine n_ex (i := 9) rfl fun new hnew => ?_
    have hfr : ¬ InR rows new := fun q => hnew.2 ((hns.mem new).mpr q)
    refine q_asgX (P := Part (cellsOf rows n)) (f := rCells) (ev_if (c := decide (((cellsOf rows n).length : Int) < 20)) (et_test (ev_opV (ev_lenM (ev_var rfl) lat_data) ev_c rv_I0)) (fun _ => ev_call (ea_cons (ev_var rfl) (ea_cons (ev_var rfl) ea_nil)) ⟨a, cellsOf rows n, rfl, own1, cpos, c144, rfl, rfl⟩) (fun h => EV.up (en_cutA (xs := cellsOf rows n) (f := rCell) (ev_var rfl) eo_none (eo_int ev_c)).ev fun v M q => ⟨_, part_one own1 (by have := of_decide_eq_false h; omega), q⟩)) fun cs hcs => ?_
    have lcs : cs.length ≤ 144 := Nat.le_trans (nd_len hcs.1 hcs.2.1) c144
    refine q_asg (R := rRows (anew rows cs new)) (ev_call (ea_cons (ev_var rfl) (ea_cons (ev_var rfl) (ea_cons (ev_var rfl) ea_nil))) ⟨rows, cs, new, s, rfl, rfl⟩) ?_
    refine q_whenW (P := fun c => c = true → (true = !decide (cs = [])) ∧ (true = true → NoFault (anew rows cs new))) (et_andG (P1 := fun c => c = !decide (cs = [])) (P2 := fun c => c = true → NoFault (anew rows cs new)) (et_test (ev_bl (ev_opV (ev_var rfl) (ev_lst ea_nil) (rv_neD dp_Cs dp_nil ((shp_Cs cs).ok (by decide)) ((shp_Cs []).ok (by decide)))) (congrArg not eqv_nilC))) fun _ => et_testX (ev_opV (ev_call (ea_cons (ev_var rfl) (ea_cons (ev_var rfl) ea_nil)) ⟨anew rows cs new, road, anew_good g hnew.1, by omega, rfl, rfl⟩) ev_c (rv_exL fun c hc => rv_up rv_isNoO fun v M h => ⟨c, hc, h⟩))) (fun hp D' kk => ?_) ?_
    · obtain ⟨h1, h2⟩ := hp rfl
      have ne : cs ≠ [] := fun e => by
        rw [e] at h1
        cases h1
      have nf := h2 rfl
      have dv := divOk_of gm hin hnew.1 hfr hcs ne nf
      obtain ⟨ms, hms, _⟩ := nf.few
      exact w_no (et_to (et_not (et_B (ev_call (ea_cons (ev_var rfl) (ea_cons (ev_var rfl) (ea_cons (ev_lst (ea_cons (ev_var rfl) (ea_cons (ev_var rfl) (ea_cons (ev_var rfl) ea_nil)))) (ea_cons (ev_lst (ea_cons (ev_var rfl) (ea_cons (ev_var rfl) (ea_cons (ev_var rfl) ea_nil)))) (ea_cons (ev_var rfl) ea_nil))))) ⟨a, rows, road, nms, n, cs, new, rfl, dv, hns, n12, ⟨ms, hms⟩, rfl, rfl⟩))) rfl) kk
    refine w_forX (P := fun l : List (Str × Str) => ∀ p ∈ l, PP rows p) (rs := fun l => (cutA l none (some 3)).map rPair) (src_listX (EN.evX (en_cutX (f := rPair) (EN.evX (en_callX (h := hEx (fun l : List (Str × Str) => ∀ p ∈ l, PP rows p) fun l => hL (l.map rPair)) (Rs := [rAt a]) (P := fun ps : List (Str × Str) => (∀ p ∈ ps, PP rows p) ∧ ps.length ≤ 576) (f := fun ps => rL (ps.map rPair)) (ea_cons (ev_var rfl) (ea_cons (ev_call (ea_cons (ev_var rfl) ea_nil) ⟨rows, g, rfl, rfl⟩) ea_nil)) (fun ps hps => ⟨_, ⟨a, ps.map rPair, rfl, by rw [List.length_map]; have := hps.2; omega, rfl, rfl⟩, fun o M q => ?_⟩))) eo_none (eo_int ev_c)))) fun l hpp wi' src => ?_
    · obtain ⟨r, hr, q⟩ := q
      obtain ⟨xs, h1, rfl⟩ := perm_map hr
      exact ⟨xs, fun p hp => hps.1 p (h1.mem_iff.mp hp), q⟩
    refine w_for1 (ys := cutA l none (some 3)) (F := rPair) src (fun (i : Nat) (u : Unit) => True) (fun _ => []) (fun _ => [some (rScript K ns), some (rAt a), none, some (rRows rows), some (rCells road), some (rPlat (He.ga K "Plat") rows road), some (rStrs nms), none, none, none, none, none, none, none, none, none]) () True.intro rfl (by exact ⟨rfl, rfl, rfl, rfl, rfl, rfl, True.intro⟩) (fun _ _ => gt_tup2 gt_name gt_name) ?_ ?_
    · rintro gs2 j p ⟨⟩ hp _
      have pp := hpp p (mem_cutA (List.mem_of_getElem? hp))
      obtain ⟨one, two⟩ := p
      have nb : Nb rows one two := nb_of pp
      have in1 := nb.in1 s
      have in2 := nb.in2 s
      have ok2 := platOk_uni ok nb ⟨nms, hns⟩
      have s2 := ok2.good.sh
      have inU : ∀ {z}, InR (uni rows one two) z ↔ InR rows z ∧ z ≠ two := uni_inR s in1 nb.ne
      have inU1 : InR (uni rows one two) one := inU.mpr ⟨in1, nb.ne⟩
      refine q_asg (ev_uniP ok nb ⟨nms, hns⟩ rfl (ev_var rfl) (ev_var rfl) (ev_var rfl)) ?_
      refine q_no (et_to (et_not (et_B (ev_call (ea_cons (EV.up (ev_lst (ea_cons (ev_rowsP s2 (ev_var rfl)) (ea_cons (ev_roadP (ev_var rfl)) (ea_cons (EV.up (R' := rInt (((nms.length : Nat) : Int) - 1)) (ev_lenP (m := "x") (P := Names (uni rows one two)) (f := fun ms : List Str => ((ms.length : Nat) : Int)) (ev_var rfl) (isIns_P (by decide +kernel)) ⟨uni rows one two, road, rfl, rfl⟩ (fun ms hms => ?_)) ?_) ea_nil)))) is3) (ea_cons (EV.up (ev_lst (ea_cons (ev_call (ea_cons (ev_var rfl) (ea_cons (ev_call (ea_cons (ev_var rfl) (ea_cons (ev_var rfl) ea_nil)) ⟨rows, two, s, rfl, rfl⟩) (ea_cons (ev_var rfl) ea_nil))) ⟨rows, cellsOf rows two, one, s, rfl, rfl⟩) (ea_cons (ev_var rfl) (ea_cons (ev_opV (ev_lenM (ev_var rfl) lat_data) ev_c rv_I0) ea_nil)))) is3) ea_nil)) ⟨.list [pyRs (uni rows one two), pyCs road, .int (((nms.length : Nat) : Int) - 1)], up3 ok2.good (by omega), rfl, rfl⟩))) rfl) ?_
      · have := uni_names s in1 in2 nb.ne hns hms
        omega
      · rintro v M ⟨ms, hms, e⟩
        have := uni_names s in1 in2 nb.ne hns hms
        have e : v = .int ((ms.length : Nat) : Int) := e
        show v = .int _
        rw [e]
        exact congrArg V.int (by omega)
      have so := side_uni s nb.ne
      refine q_no (et_to (et_or (et_test (ev_opV (ev_sideP s2 inU1 (ev_var rfl) (ev_var rfl)) (ev_opV (ev_opV (ev_sideP s in1 (ev_var rfl) (ev_var rfl)) (ev_sideP s in2 (ev_var rfl) (ev_var rfl)) rv_I0) (ev_opV ev_c (ev_bordP in1 in2 (ev_var rfl) (ev_var rfl) (ev_var rfl)) (rv_I (Or.inl (by decide)))) rv_I0) (rv_ne rfl))) fun _ => et_test (ev_bl (ev_opV (ev_namesP hns (ev_var rfl)) (ev_var rfl) (rv_neD dp_Ss dp_Ss ((shp_Ss nms nso).ok (by decide)) ((shp_Ss nms nso).ok (by decide)))) (congrArg not (eqv_Ss nms)))) ?_) ?_
      · rw [decide_eq_true (congrArg V.int so)]
        rfl
      refine w_no (et_to (et_not (et_B (ev_cb (R := rBl true) (ea_cons (EN.evX (en_exX (src_listX (ev_mt (m := "names") (ev_var rfl) (isIns_P (by decide +kernel)) ea_nil ⟨uni rows one two, road, rfl, rfl⟩)) fun ms hms S wi' src => en_lc1 ms (fun z => !decide (z = one)) (fun _ => rBl true) src (fun _ _ => gt_name) (fun _ h => h) ?_ (fun z hz => et_to (et_test (ev_opV (ev_var rfl) (ev_var rfl) (rv_ne rfl))) ?_) (fun z hz hc => ?_))) ea_nil) (rc_ex fun ms hms => rc_all1)))) rfl) ?_
      · have := uni_names s in1 in2 nb.ne hns hms
        omega
      · rw [show decide (V.str z = V.str one) = decide (z = one) from decide_eq_decide.mpr ⟨fun e => by injection e, fun e => by rw [e]⟩]
      · have hne : z ≠ one := fun e => by
          rw [decide_eq_true e] at hc
          cases hc
        have hz1 := (hms.mem z).mp hz
        obtain ⟨hz2, hz3⟩ := inU.mp hz1
        have bu := bord_uni s nb.ne hne hz3
        have h : ((bord (uni rows one two) one z : Nat) : Int) = ((bord rows one z : Nat) : Int) + ((bord rows two z : Nat) : Int) := by omega
        exact ev_bl (ev_opV (ev_bordP inU1 hz1 (ev_var rfl) (ev_var rfl) (ev_var rfl)) (ev_opV (ev_bordP in1 hz2 (ev_var rfl) (ev_var rfl) (ev_var rfl)) (ev_bordP in2 hz2 (ev_var rfl) (ev_var rfl) (ev_var rfl)) rv_I0) (rv_eq rfl)) (decide_eq_true (congrArg V.int h))
      dsimp only
      exact n_inv () True.intro rfl (by exact ⟨rfl, rfl, rfl, rfl, rfl, rfl, True.intro⟩)
    · rintro ⟨⟩ _
      dsimp only
      exact n_inv () True.intro rfl (by exact ⟨rfl, rfl, True.intro⟩)
  · rintro ⟨⟩ _
    exact w_ret (R := rBl true) ev_c fun v H' _ r => by
      have r : v = .bl true := r
      rw [r]
      exact k H'

end
end K9W
end
section
set_option Elab.async false
set_option linter.all false
set_option maxRecDepth 100000
set_option maxHeartbeats 0
namespace K9
open PySem PySem.Spec PyProof.Rows L2
theorem facts {P : Program} {w : World} {K : PySem.W.Frag} {h : Heap} {mg : Str → Option Value} {f : Addr} (X : K.In h) (G : h.Ns mainGlobals mg) (hfa : mg ("law" : Str) = some (.ref f)) (c : K9H.Sy K) :
    ∃ fd : FuncData, (∀ (s : Shared) (v : Value), BindsTo s fd ⟨[v], []⟩ [("_law_script", v)]) ∧ ∀ base : Heap, K.In base → base.Ns mainGlobals mg → FnOk P w K mg base CX0 40 f fd ["_law_script"] (K9A.SpL K) := by
  obtain ⟨fd, F⟩ := c.def_ 60 (d := K9H.d_law) rfl
  have e := hfa.symm.trans (He.glo_ok X G (c.fact 48 (f := .glo "law") rfl))
  cases e
  have b := FunD.bindsA (ps := ["_law_script"]) F fun _ _ _ _ _ _ us hl => match us, hl with | [_], _ => rfl
  exact ⟨fd, fun s v => b s [v] rfl, fun base kb nb => K9W.o_law kb nb c F⟩
end K9
open PySem PySem.W PySem.Calls PyProof.Rows
theorem PySem.Challenge.cw_deedranks_k09_whole_plats_divided_and_un_holds : PySem.Challenge.rw_deedranks_k09_whole_plats_divided_and_un.Holds := by
  w_on; o_law
  refine HandSHeadRun.head_any (r := OpenLaw.row PySem.Challenge.rw_deedranks_k09_whole_plats_divided_and_un) (q := view (OpenLaw.row PySem.Challenge.rw_deedranks_k09_whole_plats_divided_and_un).prog [71]) (H := K9H.hk) (ob := K9H.ob) (M := 6000) (loose := K9H.loose) (d := HandSHeadRun.topDef (OpenLaw.row PySem.Challenge.rw_deedranks_k09_whole_plats_divided_and_un).prog 71) (kwd := []) K9H.ob_eq
    (by kernel_rfl) (fun s => by kernel_rfl) K9H.run (by kernel_rfl) (by kernel_rfl) (by kernel_rfl) (by rfl) (by first | assumption | decide +kernel) (by decide +kernel) ⟨rfl, rfl, rfl, rfl, rfl, by decide +kernel⟩ ?hw ?hc
  case hw => w_witness2
  case hc =>
    refine L2.walk_ofE (l := PySem.Challenge.rw_deedranks_k09_whole_plats_divided_and_un) (n := 63) (k := 40) (x := "_law_script") (CX := L2.CX0) rfl (by decide) (by kernel_rfl) ⟨rfl, by decide, by decide⟩ ?F (fun _ _ _ _ z => z)
    intro w mg fa h Y G hmg0
    obtain ⟨K, KX, c⟩ := Y
    have hmg : mg ("law" : PySem.Str) = some (.ref fa) := by
      have e : (HandSHeadRun.topDef (OpenLaw.row PySem.Challenge.rw_deedranks_k09_whole_plats_divided_and_un).prog 71).name = ("law" : PySem.Str) := by kernel_rfl
      rw [← e]
      exact hmg0
    obtain ⟨fd, hb, hF⟩ := K9.facts (P := (PySem.Challenge.rw_deedranks_k09_whole_plats_divided_and_un).prog) (w := w) KX G hmg c
    exact ⟨K, fd, L2.K9A.SpL K, KX, hb, fun H a ns hl _ hS => ⟨a, ns, rfl, hS, hl, fun _ => rfl⟩, hF⟩
end
