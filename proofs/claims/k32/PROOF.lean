import PyProof.Rows.All
import Wide.All
import OpenK.AllK
import Wide.FinOn
import KE.KStateDown
import HandS.ForMost
import HandS.Defaults
import HandS.Head0
import HandS.Head1
import HandS.Head2
import HandS.HeadEnd
import HandS.HeadHook1
import HandS.HeadHook2
import HandS.HeadHook3
import HandS.HeadHook4
import HandS.HeadWalk
import HandS.Codes
import HandS.More
import HandS.Flow
import HandS.Conv
import HandS.IsInst
import HandS.Wide
import HandS.SortInts
import HandS.SortKw
import HandS.DictComp
import HandS.Zip
import HandS.NoneIn
import HandS.Lambda
import HandS.EndTab
import HandS.Walk
import HandS.Evl
import HandS.Strs
import HandS.SetFor
import PyProof.Rows.SetFrom
import HandS.ListItems
import KE.KDictList
import PyProof.ReprRoads
import KE.SortKeyHeap
import KE.SortData
import KE.KSortKey
import PyProof.StrLawsRepr
import PyProof.FitsInt
import HandS.Flt
import PySem.Challenge.RW_boxinbox_k32_whole_cheapest_nests
section
set_option Elab.async false
set_option linter.all false
set_option maxRecDepth 100000
set_option maxHeartbeats 0
namespace BX
open PySem PySem.Spec PyProof.Rows L2
def top (i : Nat) : Stmt := PySem.Challenge.pw_boxinbox_k32_whole_cheapest_nests.main.body.getD i (.Pass ⟨0, 0, 0, 0⟩)
abbrev s_is_whole : Stmt := top 18
def d_is_whole : He.DefD := ⟨("is_whole", none), "is_whole", "is_whole", defArgs s_is_whole, defBody s_is_whole, defScope s_is_whole, [], []⟩
abbrev s_is_name : Stmt := top 19
def d_is_name : He.DefD := ⟨("is_name", none), "is_name", "is_name", defArgs s_is_name, defBody s_is_name, defScope s_is_name, [], []⟩
abbrev s_Sides_init : Stmt := inClass (top 23) 0
def d_Sides_init : He.DefD := ⟨("Sides", some "__init__"), "__init__", "Sides.__init__", defArgs s_Sides_init, defBody s_Sides_init, defScope s_Sides_init, [], []⟩
abbrev s_Sides_told : Stmt := inClass (top 23) 1
def d_Sides_told : He.DefD := ⟨("Sides", some "told"), "told", "Sides.told", defArgs s_Sides_told, defBody s_Sides_told, defScope s_Sides_told, [], []⟩
abbrev s_Sides_ranked : Stmt := inClass (top 23) 2
def d_Sides_ranked : He.DefD := ⟨("Sides", some "ranked"), "ranked", "Sides.ranked", defArgs s_Sides_ranked, defBody s_Sides_ranked, defScope s_Sides_ranked, [], []⟩
abbrev s_need_spare : Stmt := top 26
def d_need_spare : He.DefD := ⟨("need_spare", none), "need_spare", "need_spare", defArgs s_need_spare, defBody s_need_spare, defScope s_need_spare, [], []⟩
abbrev s_are_numbers : Stmt := top 28
def d_are_numbers : He.DefD := ⟨("are_numbers", none), "are_numbers", "are_numbers", defArgs s_are_numbers, defBody s_are_numbers, defScope s_are_numbers, [], []⟩
abbrev s_shape_of : Stmt := top 30
def d_shape_of : He.DefD := ⟨("shape_of", none), "shape_of", "shape_of", defArgs s_shape_of, defBody s_shape_of, defScope s_shape_of, [], []⟩
abbrev s_shape_goes : Stmt := top 31
def d_shape_goes : He.DefD := ⟨("shape_goes", none), "shape_goes", "shape_goes", defArgs s_shape_goes, defBody s_shape_goes, defScope s_shape_goes, [], []⟩
abbrev s_inside : Stmt := top 32
def d_inside : He.DefD := ⟨("inside", none), "inside", "inside", defArgs s_inside, defBody s_inside, defScope s_inside, [.int 0], []⟩
abbrev s_grown : Stmt := top 34
def d_grown : He.DefD := ⟨("grown", none), "grown", "grown", defArgs s_grown, defBody s_grown, defScope s_grown, [], []⟩
abbrev s_matched : Stmt := top 35
def d_matched : He.DefD := ⟨("matched", none), "matched", "matched", defArgs s_matched, defBody s_matched, defScope s_matched, [], []⟩
abbrev s_reached : Stmt := top 36
def d_reached : He.DefD := ⟨("reached", none), "reached", "reached", defArgs s_reached, defBody s_reached, defScope s_reached, [], []⟩
abbrev s_nests_by : Stmt := top 37
def d_nests_by : He.DefD := ⟨("nests_by", none), "nests_by", "nests_by", defArgs s_nests_by, defBody s_nests_by, defScope s_nests_by, [], []⟩
abbrev s_need_costs : Stmt := top 40
def d_need_costs : He.DefD := ⟨("need_costs", none), "need_costs", "need_costs", defArgs s_need_costs, defBody s_need_costs, defScope s_need_costs, [], []⟩
abbrev s_prices_by : Stmt := top 41
def d_prices_by : He.DefD := ⟨("prices_by", none), "prices_by", "prices_by", defArgs s_prices_by, defBody s_prices_by, defScope s_prices_by, [], []⟩
abbrev s_cheapest : Stmt := top 42
def d_cheapest : He.DefD := ⟨("cheapest", none), "cheapest", "cheapest", defArgs s_cheapest, defBody s_cheapest, defScope s_cheapest, [.int 0], []⟩
abbrev s_are_labels : Stmt := top 47
def d_are_labels : He.DefD := ⟨("are_labels", none), "are_labels", "are_labels", defArgs s_are_labels, defBody s_are_labels, defScope s_are_labels, [], []⟩
abbrev s_room_in : Stmt := top 48
def d_room_in : He.DefD := ⟨("room_in", none), "room_in", "room_in", defArgs s_room_in, defBody s_room_in, defScope s_room_in, [], []⟩
abbrev s_Parcel_init : Stmt := inClass (top 49) 0
def d_Parcel_init : He.DefD := ⟨("Parcel", some "__init__"), "__init__", "Parcel.__init__", defArgs s_Parcel_init, defBody s_Parcel_init, defScope s_Parcel_init, [.int 1, .int 0, .int 0, .non], []⟩
abbrev s_Parcel_name : Stmt := inClass (top 49) 1
def d_Parcel_name : He.DefD := ⟨("Parcel", some "name"), "name", "Parcel.name", defArgs s_Parcel_name, defBody s_Parcel_name, defScope s_Parcel_name, [], []⟩
abbrev s_Parcel_sides : Stmt := inClass (top 49) 2
def d_Parcel_sides : He.DefD := ⟨("Parcel", some "sides"), "sides", "Parcel.sides", defArgs s_Parcel_sides, defBody s_Parcel_sides, defScope s_Parcel_sides, [], []⟩
abbrev s_Parcel_labels : Stmt := inClass (top 49) 6
def d_Parcel_labels : He.DefD := ⟨("Parcel", some "labels"), "labels", "Parcel.labels", defArgs s_Parcel_labels, defBody s_Parcel_labels, defScope s_Parcel_labels, [], []⟩
abbrev s_Parcel_room : Stmt := inClass (top 49) 7
def d_Parcel_room : He.DefD := ⟨("Parcel", some "room"), "room", "Parcel.room", defArgs s_Parcel_room, defBody s_Parcel_room, defScope s_Parcel_room, [], []⟩
abbrev s_Heap_init : Stmt := inClass (top 52) 0
def d_Heap_init : He.DefD := ⟨("Heap", some "__init__"), "__init__", "Heap.__init__", defArgs s_Heap_init, defBody s_Heap_init, defScope s_Heap_init, [], []⟩
abbrev s_Heap_place_of : Stmt := inClass (top 52) 1
def d_Heap_place_of : He.DefD := ⟨("Heap", some "place_of"), "place_of", "Heap.place_of", defArgs s_Heap_place_of, defBody s_Heap_place_of, defScope s_Heap_place_of, [], []⟩
abbrev s_Heap_put : Stmt := inClass (top 52) 2
def d_Heap_put : He.DefD := ⟨("Heap", some "put"), "put", "Heap.put", defArgs s_Heap_put, defBody s_Heap_put, defScope s_Heap_put, [.non], []⟩
abbrev s_Heap_out : Stmt := inClass (top 52) 3
def d_Heap_out : He.DefD := ⟨("Heap", some "out"), "out", "Heap.out", defArgs s_Heap_out, defBody s_Heap_out, defScope s_Heap_out, [], []⟩
abbrev s_Heap_names : Stmt := inClass (top 52) 5
def d_Heap_names : He.DefD := ⟨("Heap", some "names"), "names", "Heap.names", defArgs s_Heap_names, defBody s_Heap_names, defScope s_Heap_names, [], []⟩
abbrev s_Heap_parcels : Stmt := inClass (top 52) 6
def d_Heap_parcels : He.DefD := ⟨("Heap", some "parcels"), "parcels", "Heap.parcels", defArgs s_Heap_parcels, defBody s_Heap_parcels, defScope s_Heap_parcels, [], []⟩
abbrev s_Heap_len : Stmt := inClass (top 52) 7
def d_Heap_len : He.DefD := ⟨("Heap", some "__len__"), "__len__", "Heap.__len__", defArgs s_Heap_len, defBody s_Heap_len, defScope s_Heap_len, [], []⟩
abbrev s_law_cell : Stmt := top 54
def d_law_cell : He.DefD := ⟨("_law_cell", none), "_law_cell", "_law_cell", defArgs s_law_cell, defBody s_law_cell, defScope s_law_cell, [], []⟩
abbrev s_law_purse : Stmt := top 55
def d_law_purse : He.DefD := ⟨("_law_purse", none), "_law_purse", "_law_purse", defArgs s_law_purse, defBody s_law_purse, defScope s_law_purse, [], []⟩
abbrev s_law_take : Stmt := top 56
def d_law_take : He.DefD := ⟨("_law_take", none), "_law_take", "_law_take", defArgs s_law_take, defBody s_law_take, defScope s_law_take, [], []⟩
abbrev s_law_names : Stmt := top 57
def d_law_names : He.DefD := ⟨("_law_names", none), "_law_names", "_law_names", defArgs s_law_names, defBody s_law_names, defScope s_law_names, [], []⟩
abbrev s_law_sides : Stmt := top 58
def d_law_sides : He.DefD := ⟨("_law_sides", none), "_law_sides", "_law_sides", defArgs s_law_sides, defBody s_law_sides, defScope s_law_sides, [], []⟩
abbrev s_law_row : Stmt := top 59
def d_law_row : He.DefD := ⟨("_law_row", none), "_law_row", "_law_row", defArgs s_law_row, defBody s_law_row, defScope s_law_row, [], []⟩
abbrev s_law_rows : Stmt := top 60
def d_law_rows : He.DefD := ⟨("_law_rows", none), "_law_rows", "_law_rows", defArgs s_law_rows, defBody s_law_rows, defScope s_law_rows, [], []⟩
abbrev s_law_spare : Stmt := top 61
def d_law_spare : He.DefD := ⟨("_law_spare", none), "_law_spare", "_law_spare", defArgs s_law_spare, defBody s_law_spare, defScope s_law_spare, [], []⟩
abbrev s_law_made : Stmt := top 62
def d_law_made : He.DefD := ⟨("_law_made", none), "_law_made", "_law_made", defArgs s_law_made, defBody s_law_made, defScope s_law_made, [], []⟩
abbrev s_law_heap : Stmt := top 63
def d_law_heap : He.DefD := ⟨("_law_heap", none), "_law_heap", "_law_heap", defArgs s_law_heap, defBody s_law_heap, defScope s_law_heap, [], []⟩
abbrev s_law_goes : Stmt := top 64
def d_law_goes : He.DefD := ⟨("_law_goes", none), "_law_goes", "_law_goes", defArgs s_law_goes, defBody s_law_goes, defScope s_law_goes, [], []⟩
abbrev s_law_outwards : Stmt := top 65
def d_law_outwards : He.DefD := ⟨("_law_outwards", none), "_law_outwards", "_law_outwards", defArgs s_law_outwards, defBody s_law_outwards, defScope s_law_outwards, [], []⟩
abbrev s_law_whole : Stmt := top 66
def d_law_whole : He.DefD := ⟨("_law_whole", none), "_law_whole", "_law_whole", defArgs s_law_whole, defBody s_law_whole, defScope s_law_whole, [], []⟩
abbrev s_law_unlike : Stmt := top 67
def d_law_unlike : He.DefD := ⟨("_law_unlike", none), "_law_unlike", "_law_unlike", defArgs s_law_unlike, defBody s_law_unlike, defScope s_law_unlike, [], []⟩
abbrev s_law_is_nest : Stmt := top 68
def d_law_is_nest : He.DefD := ⟨("_law_is_nest", none), "_law_is_nest", "_law_is_nest", defArgs s_law_is_nest, defBody s_law_is_nest, defScope s_law_is_nest, [], []⟩
abbrev s_law_nests_of : Stmt := top 69
def d_law_nests_of : He.DefD := ⟨("_law_nests_of", none), "_law_nests_of", "_law_nests_of", defArgs s_law_nests_of, defBody s_law_nests_of, defScope s_law_nests_of, [], []⟩
abbrev s_law_numbers : Stmt := top 70
def d_law_numbers : He.DefD := ⟨("_law_numbers", none), "_law_numbers", "_law_numbers", defArgs s_law_numbers, defBody s_law_numbers, defScope s_law_numbers, [], []⟩
abbrev s_law_shown : Stmt := top 71
def d_law_shown : He.DefD := ⟨("_law_shown", none), "_law_shown", "_law_shown", defArgs s_law_shown, defBody s_law_shown, defScope s_law_shown, [], []⟩
abbrev s_law_exchanged : Stmt := top 72
def d_law_exchanged : He.DefD := ⟨("_law_exchanged", none), "_law_exchanged", "_law_exchanged", defArgs s_law_exchanged, defBody s_law_exchanged, defScope s_law_exchanged, [], []⟩
abbrev s_law_deed : Stmt := top 73
def d_law_deed : He.DefD := ⟨("_law_deed", none), "_law_deed", "_law_deed", defArgs s_law_deed, defBody s_law_deed, defScope s_law_deed, [], []⟩
abbrev s_law_costs : Stmt := top 74
def d_law_costs : He.DefD := ⟨("_law_costs", none), "_law_costs", "_law_costs", defArgs s_law_costs, defBody s_law_costs, defScope s_law_costs, [], []⟩
abbrev s_law_right : Stmt := top 75
def d_law_right : He.DefD := ⟨("_law_right", none), "_law_right", "_law_right", defArgs s_law_right, defBody s_law_right, defScope s_law_right, [], []⟩
abbrev s_law_asked_again : Stmt := top 76
def d_law_asked_again : He.DefD := ⟨("_law_asked_again", none), "_law_asked_again", "_law_asked_again", defArgs s_law_asked_again, defBody s_law_asked_again, defScope s_law_asked_again, [], []⟩
abbrev s_law : Stmt := top 77
def d_law : He.DefD := ⟨("law", none), "law", "law", defArgs s_law, defBody s_law, defScope s_law, [], []⟩
def fn0 : List He.DefD := [d_is_whole, d_is_name, d_Sides_init, d_Sides_told, d_Sides_ranked, d_need_spare, d_are_numbers, d_shape_of, d_shape_goes, d_inside, d_grown, d_matched, d_reached, d_nests_by, d_need_costs, d_prices_by, d_cheapest, d_are_labels, d_room_in, d_Parcel_init, d_Parcel_name, d_Parcel_sides, d_Parcel_labels, d_Parcel_room, d_Heap_init, d_Heap_place_of, d_Heap_put, d_Heap_out, d_Heap_names, d_Heap_parcels]
def fn1 : List He.DefD := [d_Heap_len, d_law_cell, d_law_purse, d_law_take, d_law_names, d_law_sides, d_law_row, d_law_rows, d_law_spare, d_law_made, d_law_heap, d_law_goes, d_law_outwards, d_law_whole, d_law_unlike, d_law_is_nest, d_law_nests_of, d_law_numbers, d_law_shown, d_law_exchanged, d_law_deed, d_law_costs, d_law_right, d_law_asked_again, d_law]
def fn : List He.DefD := fn0 ++ fn1
def fa0 : List He.Fa := [.glo "is_whole", .glo "is_name", .glo "Sides", .glo "need_spare", .glo "are_numbers", .glo "shape_of", .glo "shape_goes", .glo "inside", .glo "grown", .glo "matched", .glo "reached", .glo "nests_by", .glo "need_costs", .glo "prices_by", .glo "cheapest", .glo "are_labels", .glo "room_in", .glo "Parcel", .glo "Heap", .glo "_law_cell", .glo "_law_purse", .glo "_law_take", .glo "_law_names", .glo "_law_sides", .glo "_law_row", .glo "_law_rows", .glo "_law_spare", .glo "_law_made", .glo "_law_heap", .glo "_law_goes"]
def fa1 : List He.Fa := [.glo "_law_outwards", .glo "_law_whole", .glo "_law_unlike", .glo "_law_is_nest", .glo "_law_nests_of", .glo "_law_numbers", .glo "_law_shown", .glo "_law_exchanged", .glo "_law_deed", .glo "_law_costs", .glo "_law_right", .glo "_law_asked_again", .glo "law", .free "len", .free "isinstance", .free "all", .free "sorted", .free "zip", .free "list", .free "tuple", .free "set", .free "dict", .free "range", .free "min", .free "max", .free "sum", .free "int", .free "str", .free "bool", .free "enumerate"]
def fa2 : List He.Fa := [.free "repr", .int "MOST_SIDE" 100000, .int "MOST_SPARE" 1000, .int "MOST_COST" 1000000, .int "MOST_WALL" 1000, .int "MOST_WEIGHT" 100000, .int "MOST_PARCELS" 12, .str "LETTERS" "abcdefghijklmnopqrstuvwxyz", .glo "LABELS", .cls "Sides", .mkr "Sides", .keep "Sides", .noat "Sides" "three", .meth "Sides" "__init__", .meth "Sides" "told", .meth "Sides" "ranked", .cls "Parcel", .mkr "Parcel", .keep "Parcel", .noat "Parcel" "called", .noat "Parcel" "outside", .noat "Parcel" "thick", .noat "Parcel" "heavy", .noat "Parcel" "strong", .noat "Parcel" "marks", .meth "Parcel" "__init__", .meth "Parcel" "name", .meth "Parcel" "sides", .meth "Parcel" "labels", .meth "Parcel" "room"]
def fa3 : List He.Fa := [.cls "Heap", .mkr "Heap", .keep "Heap", .noat "Heap" "held", .meth "Heap" "__init__", .meth "Heap" "place_of", .meth "Heap" "put", .meth "Heap" "out", .meth "Heap" "names", .meth "Heap" "parcels", .meth "Heap" "__len__"]
def fa : List He.Fa := fa0 ++ fa1 ++ fa2 ++ fa3
def loose0 : List PySem.Str := ["_wall", "__name__", "SidesError", "NotThere", "NoNumber", "NoName", "NoSide", "NoSides", "NoOrder", "NoLabels", "NoParcel", "Doubled", "TooMany", "NoCosts", "NotInHeap", "LETTERS", "ORDERS", "is_whole", "is_name", "is_order", "MOST_SIDE", "Sides", "MOST_SPARE", "need_spare", "are_numbers", "shape_of", "shape_goes", "inside", "grown", "matched"]
def loose1 : List PySem.Str := ["reached", "nests_by", "MOST_COST", "need_costs", "prices_by", "cheapest", "LABELS", "MOST_WALL", "MOST_WEIGHT", "are_labels", "room_in", "Parcel", "MOST_PARCELS", "Heap", "_law_cell", "_law_purse", "_law_take", "_law_names", "_law_sides", "_law_row", "_law_rows", "_law_spare", "_law_made", "_law_heap", "_law_goes", "_law_outwards", "_law_whole", "_law_unlike", "_law_is_nest", "_law_nests_of"]
def loose2 : List PySem.Str := ["_law_numbers", "_law_shown", "_law_exchanged", "_law_deed", "_law_costs", "_law_right", "_law_asked_again"]
def loose : List PySem.Str := loose0 ++ loose1 ++ loose2
def tf : List He.Defn := [("cheapest", none)]
def insB (K : PySem.W.Frag) (C : Addr) : Bool := He.eqO (PySem.W.findIn K (.ref C) "__class__") (some (some (.builtin "object.__class__"))) && (He.eqO (PySem.W.specialIn K (.builtin "object.__class__") "__get__") (some (some (.builtin "getset_descriptor.__get__"))) && (decide (PySem.W.takesIn K (.builtin "object.__class__") = some true) && (decide (PySem.W.mroIn K C (.type "object") = some true) && decide (PySem.W.kitOne K (.ref C) (.ref C) = some true))))
def exL (K : PySem.W.Frag) : Bool := He.tupB K "LABELS" [.str "alone", .str "top", .str "upright"] && (insB K (He.ga K "Sides") && insB K (He.ga K "Parcel"))
abbrev R : PySem.W.OpenRow := PySem.W.OpenLaw.row PySem.Challenge.rw_boxinbox_k32_whole_cheapest_nests
abbrev hk : PySem.W.Hook := He.hookX 5 fa fn [] tf exL
def ob (s : PySem.W.SharedT) : He.AlX := He.obsX 5 fa fn [] tf exL (HandSHeadRun.getT s)
theorem ob_eq (s : PySem.W.SharedT) : ob s = hk.obs s.abs := He.obsX_eq (HandSHeadRun.getT_eq s)
end BX
end
section
set_option Elab.async false
set_option linter.all false
set_option maxRecDepth 100000
set_option maxHeartbeats 0
namespace BX
open PySem PySem.Spec PyProof.Rows L2
theorem run (w : World) : HandSHeadRun.RunEq R (PySem.W.view R.prog [77]) hk ob 20000 loose w := by
  intro os
  kernel_rfl
end BX
end
section
set_option Elab.async false
set_option linter.all false
set_option maxRecDepth 100000
set_option maxHeartbeats 4000000
namespace BX
open C8 (Cal Mak Met pe_c pe_mk pe_mt pe_mt0 pe_gc)
open PySem PySem.Spec PyProof.Rows L2
/-! ### what the walk asks of the text as the top has left it -/
structure TX (K : PySem.W.Frag) (mg : Str → Option Value) : Prop where
  h : ∃ h : Heap, K.In h ∧ h.Ns mainGlobals mg ∧ He.SaysD fa fn K ∧ exL K = true
section
variable {K : PySem.W.Frag} {mg : Str → Option Value}
theorem TX.g_is_whole (T : TX K mg) : mg "is_whole" = some (.ref (He.ga K "is_whole")) := by
  obtain ⟨h, X, G, c, _⟩ := T.h
  exact He.glo_ok X G (c.fact 0 rfl)
theorem TX.g_is_name (T : TX K mg) : mg "is_name" = some (.ref (He.ga K "is_name")) := by
  obtain ⟨h, X, G, c, _⟩ := T.h
  exact He.glo_ok X G (c.fact 1 rfl)
theorem TX.g_Sides (T : TX K mg) : mg "Sides" = some (.ref (He.ga K "Sides")) := by
  obtain ⟨h, X, G, c, _⟩ := T.h
  exact He.glo_ok X G (c.fact 2 rfl)
theorem TX.v_Sides (T : TX K mg) : ∃ u, mg "Sides" = some u ∧ RelV (.ref (He.ga K "Sides")) u := ⟨_, T.g_Sides, rfl⟩
theorem TX.g_need_spare (T : TX K mg) : mg "need_spare" = some (.ref (He.ga K "need_spare")) := by
  obtain ⟨h, X, G, c, _⟩ := T.h
  exact He.glo_ok X G (c.fact 3 rfl)
theorem TX.g_are_numbers (T : TX K mg) : mg "are_numbers" = some (.ref (He.ga K "are_numbers")) := by
  obtain ⟨h, X, G, c, _⟩ := T.h
  exact He.glo_ok X G (c.fact 4 rfl)
theorem TX.g_shape_of (T : TX K mg) : mg "shape_of" = some (.ref (He.ga K "shape_of")) := by
  obtain ⟨h, X, G, c, _⟩ := T.h
  exact He.glo_ok X G (c.fact 5 rfl)
theorem TX.g_shape_goes (T : TX K mg) : mg "shape_goes" = some (.ref (He.ga K "shape_goes")) := by
  obtain ⟨h, X, G, c, _⟩ := T.h
  exact He.glo_ok X G (c.fact 6 rfl)
theorem TX.g_inside (T : TX K mg) : mg "inside" = some (.ref (He.ga K "inside")) := by
  obtain ⟨h, X, G, c, _⟩ := T.h
  exact He.glo_ok X G (c.fact 7 rfl)
theorem TX.g_grown (T : TX K mg) : mg "grown" = some (.ref (He.ga K "grown")) := by
  obtain ⟨h, X, G, c, _⟩ := T.h
  exact He.glo_ok X G (c.fact 8 rfl)
theorem TX.g_matched (T : TX K mg) : mg "matched" = some (.ref (He.ga K "matched")) := by
  obtain ⟨h, X, G, c, _⟩ := T.h
  exact He.glo_ok X G (c.fact 9 rfl)
theorem TX.g_reached (T : TX K mg) : mg "reached" = some (.ref (He.ga K "reached")) := by
  obtain ⟨h, X, G, c, _⟩ := T.h
  exact He.glo_ok X G (c.fact 10 rfl)
theorem TX.g_nests_by (T : TX K mg) : mg "nests_by" = some (.ref (He.ga K "nests_by")) := by
  obtain ⟨h, X, G, c, _⟩ := T.h
  exact He.glo_ok X G (c.fact 11 rfl)
theorem TX.g_need_costs (T : TX K mg) : mg "need_costs" = some (.ref (He.ga K "need_costs")) := by
  obtain ⟨h, X, G, c, _⟩ := T.h
  exact He.glo_ok X G (c.fact 12 rfl)
theorem TX.g_prices_by (T : TX K mg) : mg "prices_by" = some (.ref (He.ga K "prices_by")) := by
  obtain ⟨h, X, G, c, _⟩ := T.h
  exact He.glo_ok X G (c.fact 13 rfl)
theorem TX.g_cheapest (T : TX K mg) : mg "cheapest" = some (.ref (He.ga K "cheapest")) := by
  obtain ⟨h, X, G, c, _⟩ := T.h
  exact He.glo_ok X G (c.fact 14 rfl)
theorem TX.g_are_labels (T : TX K mg) : mg "are_labels" = some (.ref (He.ga K "are_labels")) := by
  obtain ⟨h, X, G, c, _⟩ := T.h
  exact He.glo_ok X G (c.fact 15 rfl)
theorem TX.g_room_in (T : TX K mg) : mg "room_in" = some (.ref (He.ga K "room_in")) := by
  obtain ⟨h, X, G, c, _⟩ := T.h
  exact He.glo_ok X G (c.fact 16 rfl)
theorem TX.g_Parcel (T : TX K mg) : mg "Parcel" = some (.ref (He.ga K "Parcel")) := by
  obtain ⟨h, X, G, c, _⟩ := T.h
  exact He.glo_ok X G (c.fact 17 rfl)
theorem TX.v_Parcel (T : TX K mg) : ∃ u, mg "Parcel" = some u ∧ RelV (.ref (He.ga K "Parcel")) u := ⟨_, T.g_Parcel, rfl⟩
theorem TX.g_Heap (T : TX K mg) : mg "Heap" = some (.ref (He.ga K "Heap")) := by
  obtain ⟨h, X, G, c, _⟩ := T.h
  exact He.glo_ok X G (c.fact 18 rfl)
theorem TX.v_Heap (T : TX K mg) : ∃ u, mg "Heap" = some u ∧ RelV (.ref (He.ga K "Heap")) u := ⟨_, T.g_Heap, rfl⟩
theorem TX.g_law_cell (T : TX K mg) : mg "_law_cell" = some (.ref (He.ga K "_law_cell")) := by
  obtain ⟨h, X, G, c, _⟩ := T.h
  exact He.glo_ok X G (c.fact 19 rfl)
theorem TX.g_law_purse (T : TX K mg) : mg "_law_purse" = some (.ref (He.ga K "_law_purse")) := by
  obtain ⟨h, X, G, c, _⟩ := T.h
  exact He.glo_ok X G (c.fact 20 rfl)
theorem TX.g_law_take (T : TX K mg) : mg "_law_take" = some (.ref (He.ga K "_law_take")) := by
  obtain ⟨h, X, G, c, _⟩ := T.h
  exact He.glo_ok X G (c.fact 21 rfl)
theorem TX.g_law_names (T : TX K mg) : mg "_law_names" = some (.ref (He.ga K "_law_names")) := by
  obtain ⟨h, X, G, c, _⟩ := T.h
  exact He.glo_ok X G (c.fact 22 rfl)
theorem TX.g_law_sides (T : TX K mg) : mg "_law_sides" = some (.ref (He.ga K "_law_sides")) := by
  obtain ⟨h, X, G, c, _⟩ := T.h
  exact He.glo_ok X G (c.fact 23 rfl)
theorem TX.g_law_row (T : TX K mg) : mg "_law_row" = some (.ref (He.ga K "_law_row")) := by
  obtain ⟨h, X, G, c, _⟩ := T.h
  exact He.glo_ok X G (c.fact 24 rfl)
theorem TX.g_law_rows (T : TX K mg) : mg "_law_rows" = some (.ref (He.ga K "_law_rows")) := by
  obtain ⟨h, X, G, c, _⟩ := T.h
  exact He.glo_ok X G (c.fact 25 rfl)
theorem TX.g_law_spare (T : TX K mg) : mg "_law_spare" = some (.ref (He.ga K "_law_spare")) := by
  obtain ⟨h, X, G, c, _⟩ := T.h
  exact He.glo_ok X G (c.fact 26 rfl)
theorem TX.g_law_made (T : TX K mg) : mg "_law_made" = some (.ref (He.ga K "_law_made")) := by
  obtain ⟨h, X, G, c, _⟩ := T.h
  exact He.glo_ok X G (c.fact 27 rfl)
theorem TX.g_law_heap (T : TX K mg) : mg "_law_heap" = some (.ref (He.ga K "_law_heap")) := by
  obtain ⟨h, X, G, c, _⟩ := T.h
  exact He.glo_ok X G (c.fact 28 rfl)
theorem TX.g_law_goes (T : TX K mg) : mg "_law_goes" = some (.ref (He.ga K "_law_goes")) := by
  obtain ⟨h, X, G, c, _⟩ := T.h
  exact He.glo_ok X G (c.fact 29 rfl)
theorem TX.g_law_outwards (T : TX K mg) : mg "_law_outwards" = some (.ref (He.ga K "_law_outwards")) := by
  obtain ⟨h, X, G, c, _⟩ := T.h
  exact He.glo_ok X G (c.fact 30 rfl)
theorem TX.g_law_whole (T : TX K mg) : mg "_law_whole" = some (.ref (He.ga K "_law_whole")) := by
  obtain ⟨h, X, G, c, _⟩ := T.h
  exact He.glo_ok X G (c.fact 31 rfl)
theorem TX.g_law_unlike (T : TX K mg) : mg "_law_unlike" = some (.ref (He.ga K "_law_unlike")) := by
  obtain ⟨h, X, G, c, _⟩ := T.h
  exact He.glo_ok X G (c.fact 32 rfl)
theorem TX.g_law_is_nest (T : TX K mg) : mg "_law_is_nest" = some (.ref (He.ga K "_law_is_nest")) := by
  obtain ⟨h, X, G, c, _⟩ := T.h
  exact He.glo_ok X G (c.fact 33 rfl)
theorem TX.g_law_nests_of (T : TX K mg) : mg "_law_nests_of" = some (.ref (He.ga K "_law_nests_of")) := by
  obtain ⟨h, X, G, c, _⟩ := T.h
  exact He.glo_ok X G (c.fact 34 rfl)
theorem TX.g_law_numbers (T : TX K mg) : mg "_law_numbers" = some (.ref (He.ga K "_law_numbers")) := by
  obtain ⟨h, X, G, c, _⟩ := T.h
  exact He.glo_ok X G (c.fact 35 rfl)
theorem TX.g_law_shown (T : TX K mg) : mg "_law_shown" = some (.ref (He.ga K "_law_shown")) := by
  obtain ⟨h, X, G, c, _⟩ := T.h
  exact He.glo_ok X G (c.fact 36 rfl)
theorem TX.g_law_exchanged (T : TX K mg) : mg "_law_exchanged" = some (.ref (He.ga K "_law_exchanged")) := by
  obtain ⟨h, X, G, c, _⟩ := T.h
  exact He.glo_ok X G (c.fact 37 rfl)
theorem TX.g_law_deed (T : TX K mg) : mg "_law_deed" = some (.ref (He.ga K "_law_deed")) := by
  obtain ⟨h, X, G, c, _⟩ := T.h
  exact He.glo_ok X G (c.fact 38 rfl)
theorem TX.g_law_costs (T : TX K mg) : mg "_law_costs" = some (.ref (He.ga K "_law_costs")) := by
  obtain ⟨h, X, G, c, _⟩ := T.h
  exact He.glo_ok X G (c.fact 39 rfl)
theorem TX.g_law_right (T : TX K mg) : mg "_law_right" = some (.ref (He.ga K "_law_right")) := by
  obtain ⟨h, X, G, c, _⟩ := T.h
  exact He.glo_ok X G (c.fact 40 rfl)
theorem TX.g_law_asked_again (T : TX K mg) : mg "_law_asked_again" = some (.ref (He.ga K "_law_asked_again")) := by
  obtain ⟨h, X, G, c, _⟩ := T.h
  exact He.glo_ok X G (c.fact 41 rfl)
theorem TX.g_law (T : TX K mg) : mg "law" = some (.ref (He.ga K "law")) := by
  obtain ⟨h, X, G, c, _⟩ := T.h
  exact He.glo_ok X G (c.fact 42 rfl)
theorem TX.n_len (T : TX K mg) : mg "len" = none := by
  obtain ⟨h, X, G, c, _⟩ := T.h
  exact He.free_ok X G (c.fact 43 rfl)
theorem TX.n_isinstance (T : TX K mg) : mg "isinstance" = none := by
  obtain ⟨h, X, G, c, _⟩ := T.h
  exact He.free_ok X G (c.fact 44 rfl)
theorem TX.n_all (T : TX K mg) : mg "all" = none := by
  obtain ⟨h, X, G, c, _⟩ := T.h
  exact He.free_ok X G (c.fact 45 rfl)
theorem TX.n_sorted (T : TX K mg) : mg "sorted" = none := by
  obtain ⟨h, X, G, c, _⟩ := T.h
  exact He.free_ok X G (c.fact 46 rfl)
theorem TX.n_zip (T : TX K mg) : mg "zip" = none := by
  obtain ⟨h, X, G, c, _⟩ := T.h
  exact He.free_ok X G (c.fact 47 rfl)
theorem TX.n_list (T : TX K mg) : mg "list" = none := by
  obtain ⟨h, X, G, c, _⟩ := T.h
  exact He.free_ok X G (c.fact 48 rfl)
theorem TX.n_tuple (T : TX K mg) : mg "tuple" = none := by
  obtain ⟨h, X, G, c, _⟩ := T.h
  exact He.free_ok X G (c.fact 49 rfl)
theorem TX.n_set (T : TX K mg) : mg "set" = none := by
  obtain ⟨h, X, G, c, _⟩ := T.h
  exact He.free_ok X G (c.fact 50 rfl)
theorem TX.n_dict (T : TX K mg) : mg "dict" = none := by
  obtain ⟨h, X, G, c, _⟩ := T.h
  exact He.free_ok X G (c.fact 51 rfl)
theorem TX.n_range (T : TX K mg) : mg "range" = none := by
  obtain ⟨h, X, G, c, _⟩ := T.h
  exact He.free_ok X G (c.fact 52 rfl)
theorem TX.n_min (T : TX K mg) : mg "min" = none := by
  obtain ⟨h, X, G, c, _⟩ := T.h
  exact He.free_ok X G (c.fact 53 rfl)
theorem TX.n_max (T : TX K mg) : mg "max" = none := by
  obtain ⟨h, X, G, c, _⟩ := T.h
  exact He.free_ok X G (c.fact 54 rfl)
theorem TX.n_sum (T : TX K mg) : mg "sum" = none := by
  obtain ⟨h, X, G, c, _⟩ := T.h
  exact He.free_ok X G (c.fact 55 rfl)
theorem TX.n_int (T : TX K mg) : mg "int" = none := by
  obtain ⟨h, X, G, c, _⟩ := T.h
  exact He.free_ok X G (c.fact 56 rfl)
theorem TX.n_str (T : TX K mg) : mg "str" = none := by
  obtain ⟨h, X, G, c, _⟩ := T.h
  exact He.free_ok X G (c.fact 57 rfl)
theorem TX.n_bool (T : TX K mg) : mg "bool" = none := by
  obtain ⟨h, X, G, c, _⟩ := T.h
  exact He.free_ok X G (c.fact 58 rfl)
theorem TX.n_enumerate (T : TX K mg) : mg "enumerate" = none := by
  obtain ⟨h, X, G, c, _⟩ := T.h
  exact He.free_ok X G (c.fact 59 rfl)
theorem TX.n_repr (T : TX K mg) : mg "repr" = none := by
  obtain ⟨h, X, G, c, _⟩ := T.h
  exact He.free_ok X G (c.fact 60 rfl)
theorem TX.v_MOST_SIDE (T : TX K mg) : ∃ u, mg "MOST_SIDE" = some u ∧ RelV (.int 100000) u := by
  obtain ⟨h, X, G, c, _⟩ := T.h
  obtain ⟨t, e⟩ := He.int_ok X G (c.fact 61 rfl)
  exact ⟨_, e, t, rfl⟩
theorem TX.v_MOST_SPARE (T : TX K mg) : ∃ u, mg "MOST_SPARE" = some u ∧ RelV (.int 1000) u := by
  obtain ⟨h, X, G, c, _⟩ := T.h
  obtain ⟨t, e⟩ := He.int_ok X G (c.fact 62 rfl)
  exact ⟨_, e, t, rfl⟩
theorem TX.v_MOST_COST (T : TX K mg) : ∃ u, mg "MOST_COST" = some u ∧ RelV (.int 1000000) u := by
  obtain ⟨h, X, G, c, _⟩ := T.h
  obtain ⟨t, e⟩ := He.int_ok X G (c.fact 63 rfl)
  exact ⟨_, e, t, rfl⟩
theorem TX.v_MOST_WALL (T : TX K mg) : ∃ u, mg "MOST_WALL" = some u ∧ RelV (.int 1000) u := by
  obtain ⟨h, X, G, c, _⟩ := T.h
  obtain ⟨t, e⟩ := He.int_ok X G (c.fact 64 rfl)
  exact ⟨_, e, t, rfl⟩
theorem TX.v_MOST_WEIGHT (T : TX K mg) : ∃ u, mg "MOST_WEIGHT" = some u ∧ RelV (.int 100000) u := by
  obtain ⟨h, X, G, c, _⟩ := T.h
  obtain ⟨t, e⟩ := He.int_ok X G (c.fact 65 rfl)
  exact ⟨_, e, t, rfl⟩
theorem TX.v_MOST_PARCELS (T : TX K mg) : ∃ u, mg "MOST_PARCELS" = some u ∧ RelV (.int 12) u := by
  obtain ⟨h, X, G, c, _⟩ := T.h
  obtain ⟨t, e⟩ := He.int_ok X G (c.fact 66 rfl)
  exact ⟨_, e, t, rfl⟩
theorem TX.v_LETTERS (T : TX K mg) : ∃ u, mg "LETTERS" = some u ∧ RelV (.str "abcdefghijklmnopqrstuvwxyz") u := by
  obtain ⟨h, X, G, c, _⟩ := T.h
  obtain ⟨t, e⟩ := He.str_ok X G (c.fact 67 rfl)
  exact ⟨_, e, t, rfl⟩
theorem TX.g_LABELS (T : TX K mg) : mg "LABELS" = some (.ref (He.ga K "LABELS")) := by
  obtain ⟨h, X, G, c, _⟩ := T.h
  exact He.glo_ok X G (c.fact 68 rfl)
theorem TX.v_LABELS (T : TX K mg) : ∃ u, mg "LABELS" = some u ∧ RelV (.ref (He.ga K "LABELS")) u := ⟨_, T.g_LABELS, rfl⟩
theorem TX.cl_Sides (T : TX K mg) : Cls K (He.ga K "Sides") := by
  obtain ⟨h, X, G, c, _⟩ := T.h
  exact He.cls_ok (c.fact 69 rfl)
theorem TX.mk_Sides (T : TX K mg) : Mk K (He.ga K "Sides") (He.ma K (He.ga K "Sides") "__init__") := by
  obtain ⟨h, X, G, c, _⟩ := T.h
  exact He.mkr_ok (c.fact 70 rfl)
theorem TX.na_Sides_three (T : TX K mg) : NoAttr K (He.ga K "Sides") "three" := by
  obtain ⟨h, X, G, c, _⟩ := T.h
  exact He.noat_ok (c.fact 72 rfl)
theorem TX.me_Sides_init (T : TX K mg) : Meth K (He.ga K "Sides") "__init__" (He.ma K (He.ga K "Sides") "__init__") := by
  obtain ⟨h, X, G, c, _⟩ := T.h
  exact He.meth_ok (c.fact 73 rfl)
theorem TX.me_Sides_told (T : TX K mg) : Meth K (He.ga K "Sides") "told" (He.ma K (He.ga K "Sides") "told") := by
  obtain ⟨h, X, G, c, _⟩ := T.h
  exact He.meth_ok (c.fact 74 rfl)
theorem TX.me_Sides_ranked (T : TX K mg) : Meth K (He.ga K "Sides") "ranked" (He.ma K (He.ga K "Sides") "ranked") := by
  obtain ⟨h, X, G, c, _⟩ := T.h
  exact He.meth_ok (c.fact 75 rfl)
theorem TX.cl_Parcel (T : TX K mg) : Cls K (He.ga K "Parcel") := by
  obtain ⟨h, X, G, c, _⟩ := T.h
  exact He.cls_ok (c.fact 76 rfl)
theorem TX.mk_Parcel (T : TX K mg) : Mk K (He.ga K "Parcel") (He.ma K (He.ga K "Parcel") "__init__") := by
  obtain ⟨h, X, G, c, _⟩ := T.h
  exact He.mkr_ok (c.fact 77 rfl)
theorem TX.na_Parcel_called (T : TX K mg) : NoAttr K (He.ga K "Parcel") "called" := by
  obtain ⟨h, X, G, c, _⟩ := T.h
  exact He.noat_ok (c.fact 79 rfl)
theorem TX.na_Parcel_outside (T : TX K mg) : NoAttr K (He.ga K "Parcel") "outside" := by
  obtain ⟨h, X, G, c, _⟩ := T.h
  exact He.noat_ok (c.fact 80 rfl)
theorem TX.na_Parcel_thick (T : TX K mg) : NoAttr K (He.ga K "Parcel") "thick" := by
  obtain ⟨h, X, G, c, _⟩ := T.h
  exact He.noat_ok (c.fact 81 rfl)
theorem TX.na_Parcel_heavy (T : TX K mg) : NoAttr K (He.ga K "Parcel") "heavy" := by
  obtain ⟨h, X, G, c, _⟩ := T.h
  exact He.noat_ok (c.fact 82 rfl)
theorem TX.na_Parcel_strong (T : TX K mg) : NoAttr K (He.ga K "Parcel") "strong" := by
  obtain ⟨h, X, G, c, _⟩ := T.h
  exact He.noat_ok (c.fact 83 rfl)
theorem TX.na_Parcel_marks (T : TX K mg) : NoAttr K (He.ga K "Parcel") "marks" := by
  obtain ⟨h, X, G, c, _⟩ := T.h
  exact He.noat_ok (c.fact 84 rfl)
theorem TX.me_Parcel_init (T : TX K mg) : Meth K (He.ga K "Parcel") "__init__" (He.ma K (He.ga K "Parcel") "__init__") := by
  obtain ⟨h, X, G, c, _⟩ := T.h
  exact He.meth_ok (c.fact 85 rfl)
theorem TX.me_Parcel_name (T : TX K mg) : Meth K (He.ga K "Parcel") "name" (He.ma K (He.ga K "Parcel") "name") := by
  obtain ⟨h, X, G, c, _⟩ := T.h
  exact He.meth_ok (c.fact 86 rfl)
theorem TX.me_Parcel_sides (T : TX K mg) : Meth K (He.ga K "Parcel") "sides" (He.ma K (He.ga K "Parcel") "sides") := by
  obtain ⟨h, X, G, c, _⟩ := T.h
  exact He.meth_ok (c.fact 87 rfl)
theorem TX.me_Parcel_labels (T : TX K mg) : Meth K (He.ga K "Parcel") "labels" (He.ma K (He.ga K "Parcel") "labels") := by
  obtain ⟨h, X, G, c, _⟩ := T.h
  exact He.meth_ok (c.fact 88 rfl)
theorem TX.me_Parcel_room (T : TX K mg) : Meth K (He.ga K "Parcel") "room" (He.ma K (He.ga K "Parcel") "room") := by
  obtain ⟨h, X, G, c, _⟩ := T.h
  exact He.meth_ok (c.fact 89 rfl)
theorem TX.cl_Heap (T : TX K mg) : Cls K (He.ga K "Heap") := by
  obtain ⟨h, X, G, c, _⟩ := T.h
  exact He.cls_ok (c.fact 90 rfl)
theorem TX.mk_Heap (T : TX K mg) : Mk K (He.ga K "Heap") (He.ma K (He.ga K "Heap") "__init__") := by
  obtain ⟨h, X, G, c, _⟩ := T.h
  exact He.mkr_ok (c.fact 91 rfl)
theorem TX.na_Heap_held (T : TX K mg) : NoAttr K (He.ga K "Heap") "held" := by
  obtain ⟨h, X, G, c, _⟩ := T.h
  exact He.noat_ok (c.fact 93 rfl)
theorem TX.me_Heap_init (T : TX K mg) : Meth K (He.ga K "Heap") "__init__" (He.ma K (He.ga K "Heap") "__init__") := by
  obtain ⟨h, X, G, c, _⟩ := T.h
  exact He.meth_ok (c.fact 94 rfl)
theorem TX.me_Heap_place_of (T : TX K mg) : Meth K (He.ga K "Heap") "place_of" (He.ma K (He.ga K "Heap") "place_of") := by
  obtain ⟨h, X, G, c, _⟩ := T.h
  exact He.meth_ok (c.fact 95 rfl)
theorem TX.me_Heap_put (T : TX K mg) : Meth K (He.ga K "Heap") "put" (He.ma K (He.ga K "Heap") "put") := by
  obtain ⟨h, X, G, c, _⟩ := T.h
  exact He.meth_ok (c.fact 96 rfl)
theorem TX.me_Heap_out (T : TX K mg) : Meth K (He.ga K "Heap") "out" (He.ma K (He.ga K "Heap") "out") := by
  obtain ⟨h, X, G, c, _⟩ := T.h
  exact He.meth_ok (c.fact 97 rfl)
theorem TX.me_Heap_names (T : TX K mg) : Meth K (He.ga K "Heap") "names" (He.ma K (He.ga K "Heap") "names") := by
  obtain ⟨h, X, G, c, _⟩ := T.h
  exact He.meth_ok (c.fact 98 rfl)
theorem TX.me_Heap_parcels (T : TX K mg) : Meth K (He.ga K "Heap") "parcels" (He.ma K (He.ga K "Heap") "parcels") := by
  obtain ⟨h, X, G, c, _⟩ := T.h
  exact He.meth_ok (c.fact 99 rfl)
theorem TX.me_Heap_len (T : TX K mg) : Meth K (He.ga K "Heap") "__len__" (He.ma K (He.ga K "Heap") "__len__") := by
  obtain ⟨h, X, G, c, _⟩ := T.h
  exact He.meth_ok (c.fact 100 rfl)
theorem TX.f_is_whole (T : TX K mg) : ∃ fd, FunD K d_is_whole.name d_is_whole.qual d_is_whole.params d_is_whole.body d_is_whole.scope (d_is_whole.dvs K) (d_is_whole.kws K) (He.fAd K d_is_whole.at_) fd := by
  obtain ⟨h, X, G, c, _⟩ := T.h
  exact c.def_ 0 rfl
theorem TX.f_is_name (T : TX K mg) : ∃ fd, FunD K d_is_name.name d_is_name.qual d_is_name.params d_is_name.body d_is_name.scope (d_is_name.dvs K) (d_is_name.kws K) (He.fAd K d_is_name.at_) fd := by
  obtain ⟨h, X, G, c, _⟩ := T.h
  exact c.def_ 1 rfl
theorem TX.f_Sides_init (T : TX K mg) : ∃ fd, FunD K d_Sides_init.name d_Sides_init.qual d_Sides_init.params d_Sides_init.body d_Sides_init.scope (d_Sides_init.dvs K) (d_Sides_init.kws K) (He.fAd K d_Sides_init.at_) fd := by
  obtain ⟨h, X, G, c, _⟩ := T.h
  exact c.def_ 2 rfl
theorem TX.f_Sides_told (T : TX K mg) : ∃ fd, FunD K d_Sides_told.name d_Sides_told.qual d_Sides_told.params d_Sides_told.body d_Sides_told.scope (d_Sides_told.dvs K) (d_Sides_told.kws K) (He.fAd K d_Sides_told.at_) fd := by
  obtain ⟨h, X, G, c, _⟩ := T.h
  exact c.def_ 3 rfl
theorem TX.f_Sides_ranked (T : TX K mg) : ∃ fd, FunD K d_Sides_ranked.name d_Sides_ranked.qual d_Sides_ranked.params d_Sides_ranked.body d_Sides_ranked.scope (d_Sides_ranked.dvs K) (d_Sides_ranked.kws K) (He.fAd K d_Sides_ranked.at_) fd := by
  obtain ⟨h, X, G, c, _⟩ := T.h
  exact c.def_ 4 rfl
theorem TX.f_need_spare (T : TX K mg) : ∃ fd, FunD K d_need_spare.name d_need_spare.qual d_need_spare.params d_need_spare.body d_need_spare.scope (d_need_spare.dvs K) (d_need_spare.kws K) (He.fAd K d_need_spare.at_) fd := by
  obtain ⟨h, X, G, c, _⟩ := T.h
  exact c.def_ 5 rfl
theorem TX.f_are_numbers (T : TX K mg) : ∃ fd, FunD K d_are_numbers.name d_are_numbers.qual d_are_numbers.params d_are_numbers.body d_are_numbers.scope (d_are_numbers.dvs K) (d_are_numbers.kws K) (He.fAd K d_are_numbers.at_) fd := by
  obtain ⟨h, X, G, c, _⟩ := T.h
  exact c.def_ 6 rfl
theorem TX.f_shape_of (T : TX K mg) : ∃ fd, FunD K d_shape_of.name d_shape_of.qual d_shape_of.params d_shape_of.body d_shape_of.scope (d_shape_of.dvs K) (d_shape_of.kws K) (He.fAd K d_shape_of.at_) fd := by
  obtain ⟨h, X, G, c, _⟩ := T.h
  exact c.def_ 7 rfl
theorem TX.f_shape_goes (T : TX K mg) : ∃ fd, FunD K d_shape_goes.name d_shape_goes.qual d_shape_goes.params d_shape_goes.body d_shape_goes.scope (d_shape_goes.dvs K) (d_shape_goes.kws K) (He.fAd K d_shape_goes.at_) fd := by
  obtain ⟨h, X, G, c, _⟩ := T.h
  exact c.def_ 8 rfl
theorem TX.f_inside (T : TX K mg) : ∃ fd, FunD K d_inside.name d_inside.qual d_inside.params d_inside.body d_inside.scope (d_inside.dvs K) (d_inside.kws K) (He.fAd K d_inside.at_) fd := by
  obtain ⟨h, X, G, c, _⟩ := T.h
  exact c.def_ 9 rfl
theorem TX.f_grown (T : TX K mg) : ∃ fd, FunD K d_grown.name d_grown.qual d_grown.params d_grown.body d_grown.scope (d_grown.dvs K) (d_grown.kws K) (He.fAd K d_grown.at_) fd := by
  obtain ⟨h, X, G, c, _⟩ := T.h
  exact c.def_ 10 rfl
theorem TX.f_matched (T : TX K mg) : ∃ fd, FunD K d_matched.name d_matched.qual d_matched.params d_matched.body d_matched.scope (d_matched.dvs K) (d_matched.kws K) (He.fAd K d_matched.at_) fd := by
  obtain ⟨h, X, G, c, _⟩ := T.h
  exact c.def_ 11 rfl
theorem TX.f_reached (T : TX K mg) : ∃ fd, FunD K d_reached.name d_reached.qual d_reached.params d_reached.body d_reached.scope (d_reached.dvs K) (d_reached.kws K) (He.fAd K d_reached.at_) fd := by
  obtain ⟨h, X, G, c, _⟩ := T.h
  exact c.def_ 12 rfl
theorem TX.f_nests_by (T : TX K mg) : ∃ fd, FunD K d_nests_by.name d_nests_by.qual d_nests_by.params d_nests_by.body d_nests_by.scope (d_nests_by.dvs K) (d_nests_by.kws K) (He.fAd K d_nests_by.at_) fd := by
  obtain ⟨h, X, G, c, _⟩ := T.h
  exact c.def_ 13 rfl
theorem TX.f_need_costs (T : TX K mg) : ∃ fd, FunD K d_need_costs.name d_need_costs.qual d_need_costs.params d_need_costs.body d_need_costs.scope (d_need_costs.dvs K) (d_need_costs.kws K) (He.fAd K d_need_costs.at_) fd := by
  obtain ⟨h, X, G, c, _⟩ := T.h
  exact c.def_ 14 rfl
theorem TX.f_prices_by (T : TX K mg) : ∃ fd, FunD K d_prices_by.name d_prices_by.qual d_prices_by.params d_prices_by.body d_prices_by.scope (d_prices_by.dvs K) (d_prices_by.kws K) (He.fAd K d_prices_by.at_) fd := by
  obtain ⟨h, X, G, c, _⟩ := T.h
  exact c.def_ 15 rfl
theorem TX.f_cheapest (T : TX K mg) : ∃ fd, FunD K d_cheapest.name d_cheapest.qual d_cheapest.params d_cheapest.body d_cheapest.scope (d_cheapest.dvs K) (d_cheapest.kws K) (He.fAd K d_cheapest.at_) fd := by
  obtain ⟨h, X, G, c, _⟩ := T.h
  exact c.def_ 16 rfl
theorem TX.f_are_labels (T : TX K mg) : ∃ fd, FunD K d_are_labels.name d_are_labels.qual d_are_labels.params d_are_labels.body d_are_labels.scope (d_are_labels.dvs K) (d_are_labels.kws K) (He.fAd K d_are_labels.at_) fd := by
  obtain ⟨h, X, G, c, _⟩ := T.h
  exact c.def_ 17 rfl
theorem TX.f_room_in (T : TX K mg) : ∃ fd, FunD K d_room_in.name d_room_in.qual d_room_in.params d_room_in.body d_room_in.scope (d_room_in.dvs K) (d_room_in.kws K) (He.fAd K d_room_in.at_) fd := by
  obtain ⟨h, X, G, c, _⟩ := T.h
  exact c.def_ 18 rfl
theorem TX.f_Parcel_init (T : TX K mg) : ∃ fd, FunD K d_Parcel_init.name d_Parcel_init.qual d_Parcel_init.params d_Parcel_init.body d_Parcel_init.scope (d_Parcel_init.dvs K) (d_Parcel_init.kws K) (He.fAd K d_Parcel_init.at_) fd := by
  obtain ⟨h, X, G, c, _⟩ := T.h
  exact c.def_ 19 rfl
theorem TX.f_Parcel_name (T : TX K mg) : ∃ fd, FunD K d_Parcel_name.name d_Parcel_name.qual d_Parcel_name.params d_Parcel_name.body d_Parcel_name.scope (d_Parcel_name.dvs K) (d_Parcel_name.kws K) (He.fAd K d_Parcel_name.at_) fd := by
  obtain ⟨h, X, G, c, _⟩ := T.h
  exact c.def_ 20 rfl
theorem TX.f_Parcel_sides (T : TX K mg) : ∃ fd, FunD K d_Parcel_sides.name d_Parcel_sides.qual d_Parcel_sides.params d_Parcel_sides.body d_Parcel_sides.scope (d_Parcel_sides.dvs K) (d_Parcel_sides.kws K) (He.fAd K d_Parcel_sides.at_) fd := by
  obtain ⟨h, X, G, c, _⟩ := T.h
  exact c.def_ 21 rfl
theorem TX.f_Parcel_labels (T : TX K mg) : ∃ fd, FunD K d_Parcel_labels.name d_Parcel_labels.qual d_Parcel_labels.params d_Parcel_labels.body d_Parcel_labels.scope (d_Parcel_labels.dvs K) (d_Parcel_labels.kws K) (He.fAd K d_Parcel_labels.at_) fd := by
  obtain ⟨h, X, G, c, _⟩ := T.h
  exact c.def_ 22 rfl
theorem TX.f_Parcel_room (T : TX K mg) : ∃ fd, FunD K d_Parcel_room.name d_Parcel_room.qual d_Parcel_room.params d_Parcel_room.body d_Parcel_room.scope (d_Parcel_room.dvs K) (d_Parcel_room.kws K) (He.fAd K d_Parcel_room.at_) fd := by
  obtain ⟨h, X, G, c, _⟩ := T.h
  exact c.def_ 23 rfl
theorem TX.f_Heap_init (T : TX K mg) : ∃ fd, FunD K d_Heap_init.name d_Heap_init.qual d_Heap_init.params d_Heap_init.body d_Heap_init.scope (d_Heap_init.dvs K) (d_Heap_init.kws K) (He.fAd K d_Heap_init.at_) fd := by
  obtain ⟨h, X, G, c, _⟩ := T.h
  exact c.def_ 24 rfl
theorem TX.f_Heap_place_of (T : TX K mg) : ∃ fd, FunD K d_Heap_place_of.name d_Heap_place_of.qual d_Heap_place_of.params d_Heap_place_of.body d_Heap_place_of.scope (d_Heap_place_of.dvs K) (d_Heap_place_of.kws K) (He.fAd K d_Heap_place_of.at_) fd := by
  obtain ⟨h, X, G, c, _⟩ := T.h
  exact c.def_ 25 rfl
theorem TX.f_Heap_put (T : TX K mg) : ∃ fd, FunD K d_Heap_put.name d_Heap_put.qual d_Heap_put.params d_Heap_put.body d_Heap_put.scope (d_Heap_put.dvs K) (d_Heap_put.kws K) (He.fAd K d_Heap_put.at_) fd := by
  obtain ⟨h, X, G, c, _⟩ := T.h
  exact c.def_ 26 rfl
theorem TX.f_Heap_out (T : TX K mg) : ∃ fd, FunD K d_Heap_out.name d_Heap_out.qual d_Heap_out.params d_Heap_out.body d_Heap_out.scope (d_Heap_out.dvs K) (d_Heap_out.kws K) (He.fAd K d_Heap_out.at_) fd := by
  obtain ⟨h, X, G, c, _⟩ := T.h
  exact c.def_ 27 rfl
theorem TX.f_Heap_names (T : TX K mg) : ∃ fd, FunD K d_Heap_names.name d_Heap_names.qual d_Heap_names.params d_Heap_names.body d_Heap_names.scope (d_Heap_names.dvs K) (d_Heap_names.kws K) (He.fAd K d_Heap_names.at_) fd := by
  obtain ⟨h, X, G, c, _⟩ := T.h
  exact c.def_ 28 rfl
theorem TX.f_Heap_parcels (T : TX K mg) : ∃ fd, FunD K d_Heap_parcels.name d_Heap_parcels.qual d_Heap_parcels.params d_Heap_parcels.body d_Heap_parcels.scope (d_Heap_parcels.dvs K) (d_Heap_parcels.kws K) (He.fAd K d_Heap_parcels.at_) fd := by
  obtain ⟨h, X, G, c, _⟩ := T.h
  exact c.def_ 29 rfl
theorem TX.f_Heap_len (T : TX K mg) : ∃ fd, FunD K d_Heap_len.name d_Heap_len.qual d_Heap_len.params d_Heap_len.body d_Heap_len.scope (d_Heap_len.dvs K) (d_Heap_len.kws K) (He.fAd K d_Heap_len.at_) fd := by
  obtain ⟨h, X, G, c, _⟩ := T.h
  exact c.def_ 30 rfl
theorem TX.f_law_cell (T : TX K mg) : ∃ fd, FunD K d_law_cell.name d_law_cell.qual d_law_cell.params d_law_cell.body d_law_cell.scope (d_law_cell.dvs K) (d_law_cell.kws K) (He.fAd K d_law_cell.at_) fd := by
  obtain ⟨h, X, G, c, _⟩ := T.h
  exact c.def_ 31 rfl
theorem TX.f_law_purse (T : TX K mg) : ∃ fd, FunD K d_law_purse.name d_law_purse.qual d_law_purse.params d_law_purse.body d_law_purse.scope (d_law_purse.dvs K) (d_law_purse.kws K) (He.fAd K d_law_purse.at_) fd := by
  obtain ⟨h, X, G, c, _⟩ := T.h
  exact c.def_ 32 rfl
theorem TX.f_law_take (T : TX K mg) : ∃ fd, FunD K d_law_take.name d_law_take.qual d_law_take.params d_law_take.body d_law_take.scope (d_law_take.dvs K) (d_law_take.kws K) (He.fAd K d_law_take.at_) fd := by
  obtain ⟨h, X, G, c, _⟩ := T.h
  exact c.def_ 33 rfl
theorem TX.f_law_names (T : TX K mg) : ∃ fd, FunD K d_law_names.name d_law_names.qual d_law_names.params d_law_names.body d_law_names.scope (d_law_names.dvs K) (d_law_names.kws K) (He.fAd K d_law_names.at_) fd := by
  obtain ⟨h, X, G, c, _⟩ := T.h
  exact c.def_ 34 rfl
theorem TX.f_law_sides (T : TX K mg) : ∃ fd, FunD K d_law_sides.name d_law_sides.qual d_law_sides.params d_law_sides.body d_law_sides.scope (d_law_sides.dvs K) (d_law_sides.kws K) (He.fAd K d_law_sides.at_) fd := by
  obtain ⟨h, X, G, c, _⟩ := T.h
  exact c.def_ 35 rfl
theorem TX.f_law_row (T : TX K mg) : ∃ fd, FunD K d_law_row.name d_law_row.qual d_law_row.params d_law_row.body d_law_row.scope (d_law_row.dvs K) (d_law_row.kws K) (He.fAd K d_law_row.at_) fd := by
  obtain ⟨h, X, G, c, _⟩ := T.h
  exact c.def_ 36 rfl
theorem TX.f_law_rows (T : TX K mg) : ∃ fd, FunD K d_law_rows.name d_law_rows.qual d_law_rows.params d_law_rows.body d_law_rows.scope (d_law_rows.dvs K) (d_law_rows.kws K) (He.fAd K d_law_rows.at_) fd := by
  obtain ⟨h, X, G, c, _⟩ := T.h
  exact c.def_ 37 rfl
theorem TX.f_law_spare (T : TX K mg) : ∃ fd, FunD K d_law_spare.name d_law_spare.qual d_law_spare.params d_law_spare.body d_law_spare.scope (d_law_spare.dvs K) (d_law_spare.kws K) (He.fAd K d_law_spare.at_) fd := by
  obtain ⟨h, X, G, c, _⟩ := T.h
  exact c.def_ 38 rfl
theorem TX.f_law_made (T : TX K mg) : ∃ fd, FunD K d_law_made.name d_law_made.qual d_law_made.params d_law_made.body d_law_made.scope (d_law_made.dvs K) (d_law_made.kws K) (He.fAd K d_law_made.at_) fd := by
  obtain ⟨h, X, G, c, _⟩ := T.h
  exact c.def_ 39 rfl
theorem TX.f_law_heap (T : TX K mg) : ∃ fd, FunD K d_law_heap.name d_law_heap.qual d_law_heap.params d_law_heap.body d_law_heap.scope (d_law_heap.dvs K) (d_law_heap.kws K) (He.fAd K d_law_heap.at_) fd := by
  obtain ⟨h, X, G, c, _⟩ := T.h
  exact c.def_ 40 rfl
theorem TX.f_law_goes (T : TX K mg) : ∃ fd, FunD K d_law_goes.name d_law_goes.qual d_law_goes.params d_law_goes.body d_law_goes.scope (d_law_goes.dvs K) (d_law_goes.kws K) (He.fAd K d_law_goes.at_) fd := by
  obtain ⟨h, X, G, c, _⟩ := T.h
  exact c.def_ 41 rfl
theorem TX.f_law_outwards (T : TX K mg) : ∃ fd, FunD K d_law_outwards.name d_law_outwards.qual d_law_outwards.params d_law_outwards.body d_law_outwards.scope (d_law_outwards.dvs K) (d_law_outwards.kws K) (He.fAd K d_law_outwards.at_) fd := by
  obtain ⟨h, X, G, c, _⟩ := T.h
  exact c.def_ 42 rfl
theorem TX.f_law_whole (T : TX K mg) : ∃ fd, FunD K d_law_whole.name d_law_whole.qual d_law_whole.params d_law_whole.body d_law_whole.scope (d_law_whole.dvs K) (d_law_whole.kws K) (He.fAd K d_law_whole.at_) fd := by
  obtain ⟨h, X, G, c, _⟩ := T.h
  exact c.def_ 43 rfl
theorem TX.f_law_unlike (T : TX K mg) : ∃ fd, FunD K d_law_unlike.name d_law_unlike.qual d_law_unlike.params d_law_unlike.body d_law_unlike.scope (d_law_unlike.dvs K) (d_law_unlike.kws K) (He.fAd K d_law_unlike.at_) fd := by
  obtain ⟨h, X, G, c, _⟩ := T.h
  exact c.def_ 44 rfl
theorem TX.f_law_is_nest (T : TX K mg) : ∃ fd, FunD K d_law_is_nest.name d_law_is_nest.qual d_law_is_nest.params d_law_is_nest.body d_law_is_nest.scope (d_law_is_nest.dvs K) (d_law_is_nest.kws K) (He.fAd K d_law_is_nest.at_) fd := by
  obtain ⟨h, X, G, c, _⟩ := T.h
  exact c.def_ 45 rfl
theorem TX.f_law_nests_of (T : TX K mg) : ∃ fd, FunD K d_law_nests_of.name d_law_nests_of.qual d_law_nests_of.params d_law_nests_of.body d_law_nests_of.scope (d_law_nests_of.dvs K) (d_law_nests_of.kws K) (He.fAd K d_law_nests_of.at_) fd := by
  obtain ⟨h, X, G, c, _⟩ := T.h
  exact c.def_ 46 rfl
theorem TX.f_law_numbers (T : TX K mg) : ∃ fd, FunD K d_law_numbers.name d_law_numbers.qual d_law_numbers.params d_law_numbers.body d_law_numbers.scope (d_law_numbers.dvs K) (d_law_numbers.kws K) (He.fAd K d_law_numbers.at_) fd := by
  obtain ⟨h, X, G, c, _⟩ := T.h
  exact c.def_ 47 rfl
theorem TX.f_law_shown (T : TX K mg) : ∃ fd, FunD K d_law_shown.name d_law_shown.qual d_law_shown.params d_law_shown.body d_law_shown.scope (d_law_shown.dvs K) (d_law_shown.kws K) (He.fAd K d_law_shown.at_) fd := by
  obtain ⟨h, X, G, c, _⟩ := T.h
  exact c.def_ 48 rfl
theorem TX.f_law_exchanged (T : TX K mg) : ∃ fd, FunD K d_law_exchanged.name d_law_exchanged.qual d_law_exchanged.params d_law_exchanged.body d_law_exchanged.scope (d_law_exchanged.dvs K) (d_law_exchanged.kws K) (He.fAd K d_law_exchanged.at_) fd := by
  obtain ⟨h, X, G, c, _⟩ := T.h
  exact c.def_ 49 rfl
theorem TX.f_law_deed (T : TX K mg) : ∃ fd, FunD K d_law_deed.name d_law_deed.qual d_law_deed.params d_law_deed.body d_law_deed.scope (d_law_deed.dvs K) (d_law_deed.kws K) (He.fAd K d_law_deed.at_) fd := by
  obtain ⟨h, X, G, c, _⟩ := T.h
  exact c.def_ 50 rfl
theorem TX.f_law_costs (T : TX K mg) : ∃ fd, FunD K d_law_costs.name d_law_costs.qual d_law_costs.params d_law_costs.body d_law_costs.scope (d_law_costs.dvs K) (d_law_costs.kws K) (He.fAd K d_law_costs.at_) fd := by
  obtain ⟨h, X, G, c, _⟩ := T.h
  exact c.def_ 51 rfl
theorem TX.f_law_right (T : TX K mg) : ∃ fd, FunD K d_law_right.name d_law_right.qual d_law_right.params d_law_right.body d_law_right.scope (d_law_right.dvs K) (d_law_right.kws K) (He.fAd K d_law_right.at_) fd := by
  obtain ⟨h, X, G, c, _⟩ := T.h
  exact c.def_ 52 rfl
theorem TX.f_law_asked_again (T : TX K mg) : ∃ fd, FunD K d_law_asked_again.name d_law_asked_again.qual d_law_asked_again.params d_law_asked_again.body d_law_asked_again.scope (d_law_asked_again.dvs K) (d_law_asked_again.kws K) (He.fAd K d_law_asked_again.at_) fd := by
  obtain ⟨h, X, G, c, _⟩ := T.h
  exact c.def_ 53 rfl
theorem TX.f_law (T : TX K mg) : ∃ fd, FunD K d_law.name d_law.qual d_law.params d_law.body d_law.scope (d_law.dvs K) (d_law.kws K) (He.fAd K d_law.at_) fd := by
  obtain ⟨h, X, G, c, _⟩ := T.h
  exact c.def_ 54 rfl
theorem TX.labels (T : TX K mg) (H : Hp) : SqT K H (He.ga K "LABELS") [.str "alone", .str "top", .str "upright"] := by
  obtain ⟨h, X, G, c, e⟩ := T.h
  exact He.tupB_ok (He.ba e).1 H
theorem insB_ok {C : Addr} (cl : Cls K C) (h : insB K C = true) : C8.InsC K C := by
  obtain ⟨h1, h2⟩ := He.ba h
  obtain ⟨h3, h4⟩ := He.ba h2
  obtain ⟨h5, h6⟩ := He.ba h4
  obtain ⟨h7, h8⟩ := He.ba h6
  exact ⟨cl, He.eqO_ok h1, He.eqO_ok h3, of_decide_eq_true h5, of_decide_eq_true h7, of_decide_eq_true h8⟩
theorem TX.is_Sides (T : TX K mg) : C8.InsC K (He.ga K "Sides") := by
  obtain ⟨h, X, G, c, e⟩ := T.h
  exact insB_ok T.cl_Sides (He.ba (He.ba e).2).1
theorem TX.is_Parcel (T : TX K mg) : C8.InsC K (He.ga K "Parcel") := by
  obtain ⟨h, X, G, c, e⟩ := T.h
  exact insB_ok T.cl_Parcel (He.ba (He.ba e).2).2
end
theorem b_len : bootBuiltins "len" = some (.builtin "len") := by decide +kernel
theorem b_isinstance : bootBuiltins "isinstance" = some (.builtin "isinstance") := by decide +kernel
theorem b_all : bootBuiltins "all" = some (.builtin "all") := by decide +kernel
theorem b_sorted : bootBuiltins "sorted" = some (.builtin "sorted") := by decide +kernel
theorem b_min : bootBuiltins "min" = some (.builtin "min") := by decide +kernel
theorem b_max : bootBuiltins "max" = some (.builtin "max") := by decide +kernel
theorem b_sum : bootBuiltins "sum" = some (.builtin "sum") := by decide +kernel
theorem b_repr : bootBuiltins "repr" = some (.builtin "repr") := by decide +kernel
theorem b_list : bootBuiltins "list" = some (.type "list") := by decide +kernel
theorem b_tuple : bootBuiltins "tuple" = some (.type "tuple") := by decide +kernel
theorem b_set : bootBuiltins "set" = some (.type "set") := by decide +kernel
theorem b_dict : bootBuiltins "dict" = some (.type "dict") := by decide +kernel
theorem b_int : bootBuiltins "int" = some (.type "int") := by decide +kernel
theorem b_str : bootBuiltins "str" = some (.type "str") := by decide +kernel
theorem b_bool : bootBuiltins "bool" = some (.type "bool") := by decide +kernel
/-! ### promises -/
def SpG {G : Type} (args : G → List V) (pre : G → Hp → Prop) (post : G → Hp → V → Hp → Prop) : Sp := fun vs H Q _ => ∃ g, vs = args g ∧ pre g H ∧ ∀ v H', post g H v H' → Q v H'
section
variable {P : Program} {w : World} {K : PySem.W.Frag} {mg : Str → Option Value} {base : Heap}
/-- how the arguments bind, dvs the defaults that are taken -/
def BindsD (K : PySem.W.Frag) (d : He.DefD) (ps : List Str) (dvs : List V) : Prop := ∀ fd, FunD K d.name d.qual d.params d.body d.scope (d.dvs K) (d.kws K) (He.fAd K d.at_) fd → ∃ ds, Vals dvs ds ∧ Binds K fd ps ds
theorem bindsN {d : He.DefD} {ps : List Str} (h0 : d.dfl = [])
    (h : ∀ (kV doc pm : Value) (an : Option Addr) (cdv ct : Value) (us : List Value), us.length = ps.length → bindArgs (PySem.W.fnOf d.name d.qual d.params d.body d.scope .none kV doc pm an cdv ct) ⟨us, []⟩ = pure (ps.zip us)) : BindsD K d ps [] := fun fd F => by
  have e : d.dvs K = [] := by
    unfold He.DefD.dvs
    rw [h0] <;> rfl
  rw [e] at F
  exact ⟨[], .nil, F.bindsN h⟩
theorem binds1 {d : He.DefD} {ps : List Str} (n j : Nat) (hd : d.dvs K ≠ []) (hn : n + ((d.dvs K).length - j) = ps.length)
    (h : ∀ (T : Addr) (kV doc pm : Value) (an : Option Addr) (cdv ct : Value) (us its : List Value), us.length = n → its.length = (d.dvs K).length →
      ∃ k, bindArgs (PySem.W.fnOf d.name d.qual d.params d.body d.scope (.ref T) kV doc pm an cdv ct) ⟨us, []⟩ = seqItems? (.ref T) >>= k ∧ k (some its.toArray) = pure (ps.zip (us ++ its.drop j))) : BindsD K d ps ((d.dvs K).drop j) := fun fd F => F.binds1 n j hd hn h
/-- THE RULE: a def of the top keeps its promise -/
theorem calD {G : Type} {args : G → List V} {pre : G → Hp → Prop} {post : G → Hp → V → Hp → Prop} {x : Str} {d : He.DefD} {N ps : List Str} {dvs : List V} {k : Nat} (T : TX K mg)
    (F : ∃ fd, FunD K d.name d.qual d.params d.body d.scope (d.dvs K) (d.kws K) (He.fAd K d.at_) fd) (hat : He.fAd K d.at_ = He.ga K x) (hg : mg x = some (.ref (He.ga K x)))
    (hb : BindsD K d ps dvs)
    (S : FnScope N ps d.scope) (len : ∀ g, (args g).length = ps.length)
    (hbody : ∀ (cdv : Value) (A : Around) (outer : List Env) (s : Shared) (H : Hp) (Q : VK) (E : XK) (f : Addr) (g : G), Room k (A.deeper (envOfC d.qual d.scope s.heap.objs.size f cdv)) → pre g H → (∀ v H', post g H v H' → Q v H') →
      ∃ t, PSs (cxOf CX0 P w K mg base N d.qual d.scope f cdv A outer s H E).nox d.body t ∧ t { nx := fun _ H' => Q .non H', rt := Q } (start N (args g)) H) : Cal P w K mg base (k + 1) x (SpG args pre post) dvs := by
  obtain ⟨fd, F⟩ := F
  obtain ⟨ds, hd, hB⟩ := hb fd F
  have FO : FnOk P w K mg base CX0 (k + 1) (He.fAd K d.at_) fd ps (SpG args pre post) := F.ok S (fun vs H Q E h => by
    obtain ⟨g, rfl, _⟩ := h
    exact len g) fun cdv A outer s H vs Q E hr h => by
    obtain ⟨g, rfl, hp, q⟩ := h
    obtain ⟨t, h1, h2⟩ := hbody cdv A outer s H Q E _ g hr hp q
    exact ⟨t, h1.nox, h2⟩
  have kp := F.kp
  rw [hat] at FO kp
  exact ⟨He.ga K x, fd, ps, ds, FO, hg, kp, hB, hd⟩
theorem metD {G : Type} {args : G → List V} {pre : G → Hp → Prop} {post : G → Hp → V → Hp → Prop} {m : Str} {C : Addr} {d : He.DefD} {N ps : List Str} {dvs : List V} {k : Nat} (T : TX K mg)
    (F : ∃ fd, FunD K d.name d.qual d.params d.body d.scope (d.dvs K) (d.kws K) (He.fAd K d.at_) fd) (hc : Cls K C) (hm : Meth K C m (He.fAd K d.at_))
    (hb : BindsD K d ps dvs)
    (S : FnScope N ps d.scope) (len : ∀ g, (args g).length = ps.length)
    (hbody : ∀ (cdv : Value) (A : Around) (outer : List Env) (s : Shared) (H : Hp) (Q : VK) (E : XK) (f : Addr) (g : G), Room k (A.deeper (envOfC d.qual d.scope s.heap.objs.size f cdv)) → pre g H → (∀ v H', post g H v H' → Q v H') →
      ∃ t, PSs (cxOf CX0 P w K mg base N d.qual d.scope f cdv A outer s H E).nox d.body t ∧ t { nx := fun _ H' => Q .non H', rt := Q } (start N (args g)) H) : Met P w K mg base (k + 1) C m (SpG args pre post) dvs := by
  obtain ⟨fd, F⟩ := F
  obtain ⟨ds, hd, hB⟩ := hb fd F
  have FO : FnOk P w K mg base CX0 (k + 1) (He.fAd K d.at_) fd ps (SpG args pre post) := F.ok S (fun vs H Q E h => by
    obtain ⟨g, rfl, _⟩ := h
    exact len g) fun cdv A outer s H vs Q E hr h => by
    obtain ⟨g, rfl, hp, q⟩ := h
    obtain ⟨t, h1, h2⟩ := hbody cdv A outer s H Q E _ g hr hp q
    exact ⟨t, h1.nox, h2⟩
  exact ⟨_, fd, ps, ds, hc, hm, FO, hB, hd⟩
theorem makD {G : Type} {args : G → List V} {pre : G → Hp → Prop} {post : G → Hp → V → Hp → Prop} {x : Str} {d : He.DefD} {N ps : List Str} {dvs : List V} {k : Nat} (T : TX K mg)
    (F : ∃ fd, FunD K d.name d.qual d.params d.body d.scope (d.dvs K) (d.kws K) (He.fAd K d.at_) fd) (hM : Mk K (He.ga K x) (He.fAd K d.at_)) (hg : mg x = some (.ref (He.ga K x)))
    (hb : BindsD K d ps dvs)
    (S : FnScope N ps d.scope) (len : ∀ g, (args g).length = ps.length)
    (hbody : ∀ (cdv : Value) (A : Around) (outer : List Env) (s : Shared) (H : Hp) (Q : VK) (E : XK) (f : Addr) (g : G), Room k (A.deeper (envOfC d.qual d.scope s.heap.objs.size f cdv)) → pre g H → (∀ v H', post g H v H' → Q v H') →
      ∃ t, PSs (cxOf CX0 P w K mg base N d.qual d.scope f cdv A outer s H E).nox d.body t ∧ t { nx := fun _ H' => Q .non H', rt := Q } (start N (args g)) H) : Mak P w K mg base (k + 1) x (He.ga K x) (SpG args pre post) dvs := by
  obtain ⟨fd, F⟩ := F
  obtain ⟨ds, hd, hB⟩ := hb fd F
  have FO : FnOk P w K mg base CX0 (k + 1) (He.fAd K d.at_) fd ps (SpG args pre post) := F.ok S (fun vs H Q E h => by
    obtain ⟨g, rfl, _⟩ := h
    exact len g) fun cdv A outer s H vs Q E hr h => by
    obtain ⟨g, rfl, hp, q⟩ := h
    obtain ⟨t, h1, h2⟩ := hbody cdv A outer s H Q E _ g hr hp q
    exact ⟨t, h1.nox, h2⟩
  exact ⟨_, fd, ps, ds, hM, FO, hg, hB, hd⟩
end
end BX
end
section
set_option Elab.async false
set_option linter.all false
set_option maxRecDepth 100000
set_option maxHeartbeats 4000000
/-! set(xs) of a list: of ints (with its order), of texts that are all unlike. -/
namespace BX
open PySem PySem.Spec PyProof.Rows L2
def setObj0 (led : Bool) : Obj := { cls := .type "set", dict := none, data := .set #[] 0 (.fresh 0 0 led) }
section
variable {P : Program} {w : World} {A : Around} {E : Value → Shared → Prop} {s : Shared}
/-- what the loop of the update makes of the new set at S -/
def SetLoop (P : Program) (w : World) (items : Array Value) (S : Addr) (Post : Heap → Prop) : Prop :=
  ∀ (A : Around) (I : Addr) (fp wr : List Addr) (G : Array GenState → Array GenState → Prop) (St : Nat → Shared → Prop) (Pv : Nat → Value → Prop) (s : Shared) (R : Result → Shared → Prop),
    WalksS P w A.in1 I fp wr G items.size Pv St → S ∉ fp → (∀ i v, Pv i v → items[i]? = some v) → St 0 s → s.heap.get? S = some (setObj0 (!w.params.followText "set-order")) →
    (∀ s', Moved (S :: wr) G s s' → Post s'.heap → R (.ok (.ret .none)) s') → codeAny (model P w) A (.builtin "set.update.loop" ⟨[.ref S, .ref I], []⟩) R s
theorem set_call {l : Addr} {items : Array Value} {Post : Heap → Prop} {Q : Value → Shared → Prop} (hh : A.handled = none) (hl : s.heap.IsList l items) (loop : SetLoop P w items s.heap.objs.size Post)
    (fin : ∀ (h' : Heap) (tk : Nat), Post h' → (∀ b o, s.heap.get? b = some o → h'.get? b = some o) → Q (.ref s.heap.objs.size) { s with heap := h', toks := tk }) :
    wpAny (model P w) A (call (.type "set") [.ref l]) Q E s := by
  obtain ⟨c, tl, hmro⟩ := PySem.F.called_set.mro
  have made := PySem.F.called_set.made
  have subs := PySem.F.called_set.sub
  refine wpAny_call (codeAny_of_tree ?_)
  show wpAny _ _ (callAny (.type "set") _) _ _ _
  refine wpAny_pure ⟨Code.quiet_builtin _ (by decide +kernel), codeAny_builtin PySem.F.entry_type_call ?_⟩
  rw [Around.under_plain (weight_type_call_type "set" [.ref l] []) rfl]
  have q1 := PySem.F.called_set.notType
  have q2 := PySem.F.called_set.canCreate
  have q3 := PySem.F.typeCall_set_1 (.ref l)
  repeat (any_goals (first | assumption | wp_step))
  refine codeAny_mono (code_set_led1 (.ref l) (E := E) (Q₁ := fun obj t => obj = .ref s.heap.objs.size ∧ t = { s with heap := s.heap.push (setObj0 (!w.params.followText "set-order")) }) ⟨rfl, rfl⟩) fun r t hr => ?_
  cases r with
  | error e => exact hr
  | ok fl =>
    cases fl with
    | ret obj =>
      obtain ⟨rfl, rfl⟩ := hr
      have new : (s.heap.push (setObj0 (!w.params.followText "set-order"))).get? s.heap.objs.size = some (setObj0 (!w.params.followText "set-order")) := Heap.get?_push_size _ rfl
      have isSet : Shared.TypeIs { s with heap := s.heap.push (setObj0 (!w.params.followText "set-order")) } (.ref s.heap.objs.size) "set" := ⟨_, new, rfl⟩
      have q4 := PySem.F.called_set.init.lookup
      have q5 := PySem.F.called_set.init.bind (.ref s.heap.objs.size)
      repeat (any_goals (first | assumption | wp_step))
      refine codeAny_mono (codeAny_call_builtin (R := wants (fun r t => r = .none ∧ ∃ h' tk, t = { s with heap := h', toks := tk } ∧ Post h' ∧ ∀ b o, s.heap.get? b = some o → h'.get? b = some o) E) PySem.F.called_set.init.plain PySem.F.entry_set_init (check_set_init_1 isSet ?_)) fun r₂ t₂ hr₂ => ?_
      · obtain ⟨⟨oc, od, dt, osl⟩, hol, hcl, nl, hdl⟩ := hl
        simp only at hcl hdl
        subst hcl
        subst hdl
        have lis : (s.heap.push (setObj0 (!w.params.followText "set-order"))).IsList l items := ⟨_, Heap.get?_push_of_some _ hol, rfl, nl, rfl⟩
        have hol' : (s.heap.push (setObj0 (!w.params.followText "set-order"))).get? l = some { cls := .type "list", dict := od, data := .seq items nl, slots := osl } := Heap.get?_push_of_some _ hol
        have q6 := PySem.F.sub_list_set
        have q7 := PySem.F.sub_list_frozenset
        have q8 : (Value.type "list" == Value.type "dict") = false := by decide
        unfold Builtin.«set.__init__» noKeywords Builtin.Frozenset.updateFrom
        generalize hPI : pyIter = PI
        wp_walk
        subst hPI
        refine wpAny_pyIter_list lis ?_
        refine wpAny_bind (wpAny_runValue ?_)
        have low : l < s.heap.objs.size := Heap.lt_size hol
        have free : A.in1.in1.in1.handled = none := by simp [hh]
        have sz : (s.heap.push (setObj0 (!w.params.followText "set-order"))).objs.size = s.heap.objs.size + 1 := Heap.size_push ..
        have lI : l ≠ (s.heap.push (setObj0 (!w.params.followText "set-order"))).objs.size := by
          rw [sz]
          exact Nat.ne_of_lt (Nat.lt_succ_of_lt low)
        have Sfp : s.heap.objs.size ∉ [(s.heap.push (setObj0 (!w.params.followText "set-order"))).objs.size, l] := by
          rw [sz]
          simp only [List.mem_cons, List.not_mem_nil, or_false, not_or]
          exact ⟨Nat.ne_of_lt (Nat.lt_succ_self _), Nat.ne_of_gt low⟩
        refine loop _ _ _ _ _ _ _ _ _ ((Walks.list free _ l lI items).toS) Sfp (fun _ _ h => h) ⟨⟨_, Heap.get?_push_size _ rfl, rfl, rfl⟩, (lis.push _)⟩ (Heap.get?_push_of_some _ new) fun t' mv hp => ?_
        obtain ⟨h', g2, d', tk', os'⟩ := t'
        have eg : g2 = s.gens := mv.gens
        have ed : d' = s.drawn := mv.drawn
        have eo : os' = s.os := mv.os
        subst eg
        subst ed
        subst eo
        show wpAny _ _ _ _ _ _
        refine wpAny_pure ?_
        show wpAny _ _ (ret Value.none) _ _ _
        refine wpAny_pure ⟨rfl, h', tk', rfl, hp, fun b o e => ?_⟩
        have b0 : b < s.heap.objs.size := Heap.lt_size e
        refine mv.heap b o ?_ (Heap.get?_push_of_some _ (Heap.get?_push_of_some _ e))
        rw [sz]
        simp only [List.mem_cons, List.not_mem_nil, or_false, not_or]
        exact ⟨Nat.ne_of_lt b0, Nat.ne_of_lt (Nat.lt_succ_of_lt b0)⟩
      · cases r₂ with
        | error e => exact hr₂
        | ok fl₂ =>
          cases fl₂ with
          | ret r =>
            obtain ⟨rfl, h', tk, rfl, hp, hk⟩ := hr₂
            repeat (any_goals (first | assumption | wp_step))
            exact fin _ _ hp hk
          | _ => exact hr₂.elim
    | _ => exact hr.elim
/-! ### ints -/
theorem loop_ints {items : Array Value} {ns : List Int} {S : Addr} (hi : IntsAre items.toList ns) (hb : ns.length + 1 < scanBound) :
    SetLoop P w items S (fun h => ∃ c, c ≤ ns.length ∧ SetR w h S (fun j => decide (j ∈ ns)) c) := by
  intro A I fp wr G St Pv s R W hS hv h0 hn hR
  have sz : items.size = ns.length := by
    have q := IntsAre.length hi
    rw [Array.length_toList] at q
    exact q
  have val : ∀ (i : Nat) (v : Value), Pv i v → ∃ k t, ns[i]? = some k ∧ v = .int k t := fun i v h => by
    have hv' := hv i v h
    have li : i < ns.length := by
      rw [← sz]
      exact (Array.getElem?_eq_some_iff.mp hv').1
    obtain ⟨t, e⟩ := PyProof.Rows.IntsAre.int_at hi i v (by rw [Array.getElem?_toList]; exact hv')
    refine ⟨ns[i], t, List.getElem?_eq_getElem li, ?_⟩
    rw [e, List.getD_eq_getElem?_getD, List.getElem?_eq_getElem li] <;> rfl
  refine set_update_ints W S hS ns sz hb val (items.size - 0) 0 s (by omega) (Nat.zero_le _) h0 ⟨0, Nat.le_refl 0, setR_new_at hn⟩ fun s' c hm hc hq => ?_
  exact hR s' hm ⟨c, by rw [← sz]; exact hc, hq⟩
/-! ### texts, all unlike -/
theorem loop_strs {items : Array Value} {xs : List Str} {S : Addr} (hi : StrsAre items.toList xs) (hd : xs.Nodup) (hb : xs.length + 1 < scanBound) :
    SetLoop P w items S (fun h => h.SetOf (PySem.strKind P w) S (fun k => xs.any (· == k)) xs.length) := by
  intro A I fp wr G St Pv s R W hS hv h0 hn hR
  have sz : xs.length = items.size := by rw [← StrsAre.len_eq hi, Array.length_toList]
  have val : ∀ (i : Nat) (v : Value), Pv i v → ∃ t, v = .str (xs.getD i Str.empty) t := fun i v h => SS.strs_at hi i v (by rw [Array.getElem?_toList]; exact hv i v h)
  have Sw : S ∉ wr := fun h => hS (W.sub _ h)
  have up : ∀ b ∈ wr, b ∈ S :: wr := fun b hb => List.mem_cons_of_mem _ hb
  have go : ∀ (k i : Nat) (s1 : Shared), items.size - i = k → i ≤ items.size → St i s1 → Moved (S :: wr) G s s1 → s1.heap.SetOf (PySem.strKind P w) S (fun k' => (xs.take i).any (· == k')) i →
      codeAny (model P w) A (.builtin "set.update.loop" ⟨[.ref S, .ref I], []⟩) R s1 := by
    intro k
    induction k with
    | zero =>
      intro i s1 hk hle hst hm hset
      have hin : i = items.size := by omega
      subst hin
      refine codeAny_builtin PyProof.Rows.F.entry_set_update_loop ?_
      rw [Around.under_plainId PyProof.Rows.F.plain_set_update_loop _]
      show wpAny _ A.in1 (pyNext (.ref I) >>= _) _ _ s1
      refine wpAny_bind (W.done s1 _ _ hst fun s' hm' => ?_)
      show wpAny _ A.in1 (ret Value.none) _ _ s'
      have e : xs.take items.size = xs := List.take_of_length_le (by omega)
      rw [e, ← sz] at hset
      refine wpAny_pure (hR s' (Moved.trans W.gtrans hm (hm'.mono up)) ?_)
      obtain ⟨o, es, ep, t, ho, rest⟩ := hset
      exact ⟨o, es, ep, t, hm'.heap S o Sw ho, rest⟩
    | succ k ih =>
      intro i s1 hk hle hst hm hset
      have lt : i < items.size := by omega
      refine codeAny_builtin PyProof.Rows.F.entry_set_update_loop ?_
      rw [Around.under_plainId PyProof.Rows.F.plain_set_update_loop _]
      show wpAny _ A.in1 (pyNext (.ref I) >>= _) _ _ s1
      refine wpAny_bind (W.item i s1 _ _ lt hst fun v s' hP hst' hm' => ?_)
      obtain ⟨t, rfl⟩ := val i v hP
      have hset' : s'.heap.SetOf (PySem.strKind P w) S (fun k' => (xs.take i).any (· == k')) i := by
        obtain ⟨o, es, ep, tb, ho, rest⟩ := hset
        exact ⟨o, es, ep, tb, hm'.heap S o Sw ho, rest⟩
      have li : i < xs.length := by omega
      have ex : xs.getD i Str.empty = xs[i] := by
        rw [List.getD_eq_getElem?_getD, List.getElem?_eq_getElem li] <;> rfl
      rw [ex]
      have nin : (xs.take i).any (· == xs[i]) = false := by
        rw [List.any_eq_false]
        intro y hy
        obtain ⟨j, hj, e⟩ := List.mem_iff_getElem.mp hy
        rw [List.getElem_take] at e
        rw [List.length_take] at hj
        intro z
        have z' : y = xs[i] := eq_of_beq z
        have := (List.getElem_inj hd).mp (e.trans z')
        omega
      show wpAny _ A.in1 (holding [Value.str xs[i] t] (setAdd S (.str xs[i] t)) >>= _) _ _ s'
      refine wpAny_bind (wpAny_holding ?_)
      unfold setAdd
      refine wpAny_holding ?_
      refine wpAny_bind ((PySem.strKind P w).pyHash (k := xs[i]) (strKind_is _ _ _ _) ?_)
      refine wpAny_setAddHashed_of (knd := PySem.strKind P w) (s := { s' with toks := s'.toks + 1 }) (strKind_is _ _ _ _) rfl hset' (by omega) fun h' hsb hs2 => ?_
      have hs3 : h'.SetOf (PySem.strKind P w) S (fun k' => (xs.take (i + 1)).any (· == k')) (i + 1) := by
        refine SetOf_congr hs2 (fun k' => ?_) (by rw [nin] <;> rfl)
        rw [List.take_succ_eq_append_getElem li, List.any_append]
        show ((xs.take i).any (· == k') || decide (k' = xs[i])) = ((xs.take i).any (· == k') || ((xs[i] == k') || false))
        rw [Bool.or_false]
        congr 1
        by_cases e : k' = xs[i]
        · rw [e]
          simp
        · rw [decide_eq_false e]
          exact (beq_eq_false_iff_ne.mpr fun z => e z.symm).symm
      have hm3 : Moved (S :: wr) G s { s' with heap := h', toks := s'.toks + 1 } := by
        refine Moved.trans W.gtrans hm ((hm'.mono up).then_heap (Nat.le_succ _) fun b o hb e => ?_)
        rw [hsb.2 b (fun h : b = S => hb (by rw [h]; exact List.mem_cons_self))]
        exact e
      refine wpAny_pure ⟨plainId_quiet PyProof.Rows.F.plain_set_update_loop _, ih (i + 1) _ (by omega) lt (W.frame _ s' _ _ hst' (Nat.le_succ _) fun b hb o e => ?_) hm3 hs3⟩
      rw [hsb.2 b (fun h : b = S => hS (by rw [← h]; exact hb))]
      exact e
  refine go (items.size - 0) 0 s (by omega) (Nat.zero_le _) h0 (Moved.refl W.grefl) ?_
  exact SetOf_congr ((setObjOf_fresh (knd := PySem.strKind P w) (!w.params.followText "set-order")).setOf hn (by unfold scanBound; omega)) (fun _ => rfl) rfl
end
section
variable {X : Cx}
/-- set(xs), xs a list of ints -/
def rSetOfI (K : PySem.W.Frag) (w : World) : List V → Hp → VK → Prop := fun vs H Q => ∃ (l : Addr) (ns : List Int), vs = [V.ref l] ∧ SqL K H l (ns.map V.int) ∧ ns.length < 64 ∧
  ∀ (a : Addr) (c : Nat), H a = none → c ≤ ns.length → Q (.ref a) (upd H a (SetO w a (fun j => decide (j ∈ ns)) c))
theorem cr_setOfI (hc : X.calm = true) : CallR X (.type "set") (rSetOfI X.K X.w) := by
  intro pins s σ H vs us Q I r h
  obtain ⟨l, ns, rfl, hl, h64, q⟩ := h
  rw [Vals.ref1 r]
  obtain ⟨its, rv, pl, hz⟩ := I.list hl
  refine set_call (I.ok.hd hc) pl.isList (loop_ints (ns := ns) (by simpa using rv.ints) (by unfold scanBound; omega)) fun h' tk ⟨c, hc, hr⟩ k => ?_
  exact ⟨.ref s.heap.objs.size, upd H s.heap.objs.size (SetO X.w s.heap.objs.size (fun j => decide (j ∈ ns)) c), I.laid (t' := tk) k (Nat.le_refl _) (setO_new hr), rfl, q _ c (I.hok.fresh (Nat.le_refl _)) hc⟩
/-- len(set(xs)), xs a list of texts, all unlike -/
def tLenSetS (K : PySem.W.Frag) (ta : TE) : TE := fun σ H Q => ta σ H fun x H1 => ∃ (l : Addr) (xs : List Str), x = .ref l ∧ SqL K H1 l (xs.map V.str) ∧ xs.length < 64 ∧ xs.Nodup ∧ Q (.int xs.length) H1
theorem pe_lenSetS {a : Expr} {ta : TE} {p p2 q pos : Pos} (hc : X.calm = true) (hg : Gl X "len") (hm : X.mg "len" = none) (hg2 : Gl X "set") (hm2 : X.mg "set" = none) (ha : PE X a ta)
    (na : starEach [a] X.env = (false, eval a X.env) :: starEach [] X.env := by rfl) : PE X (.Call (.Name "len" p) [.Call (.Name "set" p2) [a] [] q] [] pos) (tLenSetS X.K ta) := by
  refine ⟨fun pins s σ H Q I h => ?_⟩
  refine Call_ (ld_blt I hg hm boot_len ?_)
  refine PyProof.Rows.callWith_builtin1 (PyProof.Rows.args_cons ?_ rfl) rfl rfl
  refine Call_ (ld_blt I hg2 hm2 boot_set ?_)
  refine PyProof.Rows.callWith_type1 (PyProof.Rows.args_cons (thn (ha.run pins s σ H _ I h) fun v s1 ⟨x, H1, I1, r1, q1⟩ => PyProof.Rows.args_nil ?_) na) na rfl
  obtain ⟨l, xs, rfl, hq, h64, hd, q1⟩ := q1
  cases r1
  obtain ⟨its, r, pl, hz⟩ := I1.list hq
  refine set_call (I1.ok.hd hc) pl.isList (loop_strs (xs := xs) (by simpa using strsAre_of r) hd (by unfold scanBound; omega)) fun h' tk hS hk => ?_
  refine PyProof.Rows.args_nil ?_
  obtain ⟨o, es, ep, t, ho, hex, hdt, _, _, _, hf, hn⟩ := hS
  have I2 : Inv X pins σ H1 { s1 with heap := h', toks := tk } := I1.kept hk
  exact call_len_set ho hex hdt hf (by rw [hn] <;> omega) ⟨.int xs.length, H1, I2.tok _, ⟨_, by rw [hn]⟩, q1⟩
end
end BX
end
section
set_option Elab.async false
set_option linter.all false
set_option maxRecDepth 100000
set_option maxHeartbeats 4000000
namespace BX
open PySem PySem.Spec PyProof.Rows L2 SrtO
/-! ### sorted(t, reverse=True), t a tuple of ints -/
section
variable {prog : Program} {w : World} {A : Around} {E : Value → Shared → Prop} {s : Shared}
theorem collect_tup {l : Addr} {vs : List Value} {Q : List Value → Shared → Prop} (hl : s.heap.IsTuple l vs.toArray)
    (h : Q vs { s with heap := (s.heap.push (seqObj "list" #[] 0)).update s.heap.objs.size (Obj.mapSeq (· ++ vs.toArray)) }) (hsz : vs.length ≤ sizeLine) : wpAny (model prog w) A (collect (.ref l)) Q E s := by
  obtain ⟨o, ho, hc, n, hd⟩ := id hl
  have new : (s.heap.push (seqObj "list" #[] 0)).get? s.heap.objs.size = some (seqObj "list" #[] 0) := Heap.get?_push_size _ rfl
  have old : (s.heap.push (seqObj "list" #[] 0)).get? l = some o := Heap.get?_push_of_some _ ho
  unfold collect
  refine wpAny_bind (wpAny_runValue (codeAny_builtin entry_proto_collect' ?_))
  show wpAny _ _ (do again (.builtin "list.__iadd__" ⟨[← newList [], .ref l], []⟩)) _ _ s
  refine wpAny_bind (wpAny_newList (wpAny_pure ⟨Code.quiet_builtin _ (by decide +kernel), codeAny_builtin entry_list_iadd' ?_⟩))
  show wpAny _ _ (Builtin.List.listExtendWith (.ref s.heap.objs.size) (.ref l) (.ref s.heap.objs.size)) _ _ { s with heap := s.heap.push (seqObj "list" #[] 0) }
  unfold Builtin.List.listExtendWith
  refine wpAny_bind (wpAny_typeOf (T := "tuple") ⟨o, old, hc⟩ ?_)
  rw [if_pos (by rw [show (Value.type "tuple" == Value.type "tuple") = true from rfl, Bool.or_true])]
  refine wpAny_bind (listItems_at old hd ?_)
  refine wpAny_bind (listItems_at (xs := #[]) (n := 0) new rfl ?_)
  rw [if_neg (by simp)]
  refine wpAny_bind (listUpdate_at (xs := #[]) (n := 0) new rfl ?_ (Nat.zero_le _) (by show (#[] ++ vs.toArray).size ≤ sizeLine + 1; simp; omega))
  refine wpAny_pure ?_
  show wpAny (model prog w) A (do
      let o ← load s.heap.objs.size
      match o.data with
      | .seq xs _ => pure xs.toList
      | _ => unsupported "internal:collect") Q E { s with heap := (s.heap.push (seqObj "list" #[] 0)).update s.heap.objs.size (Obj.mapSeq (· ++ vs.toArray)) }
  refine wpAny_bind (wpAny_load (get?_update_seq new _) ?_)
  show wpAny _ _ (pure ((#[] : Array Value) ++ vs.toArray).toList) Q E _
  rw [show ((#[] : Array Value) ++ vs.toArray).toList = vs by simp]
  exact wpAny_pure h
theorem sorted_tupK {l : Addr} {vs : List Value} {b : Bool} {kw : List (Str × Value)} {ltv : Value → Value → Bool} {Q : Value → Shared → Prop} (hk : ∀ a, Builtin.«list.sort» ⟨[.ref a], kw⟩ = Builtin.«list.sort» ⟨[.ref a], [(Str.ofString "reverse", .bool b)]⟩)
    (ha1 : argsOk "sorted" ⟨[.ref l], kw⟩) (ha2 : ∀ a, argsOk "list.sort" ⟨[a], kw⟩) (O : Swo ltv) (hl : s.heap.IsTuple l vs.toArray) (hz : vs.length ≤ sizeLine)
    (hS : 2 ≤ vs.length → ∀ (h₁ : Heap) (a : Addr), SortableO prog w A.in1.in1 { s with heap := h₁ } a vs ltv)
    (h : ∀ out : List Value, Srtd ltv out → Stb ltv out (if b = true then vs.reverse else vs) → Q (.ref (s.heap.objs.size + 1)) { s with heap := sortedAll s.heap vs (if b = true then out.toArray.reverse else out.toArray) }) :
    wpAny (model prog w) A (call (.builtin "sorted") [.ref l] kw) Q E s := by
  refine call_function_entry_kw kind_sorted plain_sorted entry_sorted ha1 ?_
  unfold Builtin.«sorted»
  refine wpAny_bind (m := checkCount "sorted" 1 1 _) (wpAny_pure ?_)
  refine wpAny_bind (collect_tup hl ?_ hz)
  refine wpAny_bind (wpAny_newList ?_ hz)
  have sz : ((s.heap.push (seqObj "list" #[] 0)).update s.heap.objs.size (Obj.mapSeq (· ++ vs.toArray))).objs.size = s.heap.objs.size + 1 := by
    rw [Heap.size_update, size_push']
  have at1 : (((s.heap.push (seqObj "list" #[] 0)).update s.heap.objs.size (Obj.mapSeq (· ++ vs.toArray))).push (seqObj "list" vs.toArray 0)).get? (s.heap.objs.size + 1) = some (seqObj "list" vs.toArray 0) := by
    rw [← sz]
    exact Heap.get?_push_size _ rfl
  show wpAny _ _ _ _ _ { s with heap := ((s.heap.push (seqObj "list" #[] 0)).update s.heap.objs.size (Obj.mapSeq (· ++ vs.toArray))).push (seqObj "list" vs.toArray 0) }
  rw [sz]
  refine wpAny_bind (wpAny_holding (wpAny_call_entry_kw slot_list_sort ⟨_, at1, rfl⟩ entry_list_sort ?_ (ha2 _)))
  rw [hk]
  refine SrtR.list_sort_ordR O at1 hz (fun h2 => hS h2 _ _) fun out hs hb => ⟨_, rfl, ?_⟩
  exact wpAny_pure ⟨_, rfl, h out hs hb⟩
end
section
variable {X : Cx}
def rSortedTupRev (K : PySem.W.Frag) : List V → List V → Hp → VK → Prop := fun vs zs H Q => ∃ (a : Addr) (ns : List Int), vs = [V.ref a] ∧ zs = [.bl true] ∧ SqT K H a (ns.map V.int) ∧
  ∀ (ns' : List Int) (p : Addr), ns'.Perm ns → ns'.Pairwise (· ≥ ·) → H p = none → Q (.ref p) (upd H p (.lst (ns'.map V.int)))
theorem cr_sortedTupRev : CallRK X (.builtin "sorted") [Str.ofString "reverse"] (rSortedTupRev X.K) := by
  intro pins s σ H vs zs us ws Q I r rz h
  obtain ⟨a, ns, rfl, rfl, hs, q⟩ := h
  obtain rfl := Vals.ref1 r
  obtain ⟨w1, rfl, e1⟩ := vals1 rz
  obtain rfl : w1 = Value.bool true := e1
  obtain ⟨its, rv, hl, hz⟩ := I.tuple hs
  have hi := rv.ints
  refine sorted_tupK (b := true) (fun _ => rfl) (PyProof.Rows.args_sorted_rev _ _) (fun _ => PyProof.Rows.args_list_sort_rev _ _) SrtO.swo_int hl (by rw [← rv.length]; exact hz) (fun h2 h₁ a' => SrtO.ints_sortable hi h2) fun out h1 h2 => ?_
  obtain ⟨ns', k1, k2, k3⟩ := SrtR.ints_outR hi h1 h2
  obtain ⟨ep, he'⟩ := PyProof.Rows.sortedAll_at s.heap its (if true = true then out.toArray.reverse else out.toArray)
  have hlen : (ns'.map V.int).length ≤ sizeLine := by
    rw [List.length_map, k2.length_eq]
    rw [List.length_map] at hz
    exact hz
  have e0 : ((if true = true then out.toArray.reverse else out.toArray).toList).toArray = (if true = true then out.toArray.reverse else out.toArray) := by rw [Array.toArray_toList]
  exact ⟨.ref _, upd H (s.heap.objs.size + 1) (.lst (ns'.map V.int)), I.laid (t' := s.toks) (fun _ _ => PyProof.Rows.sortedAll_old) (Nat.le_succ _) ⟨hlen, _, ep, vals_of_ints k1, by rw [e0]; exact he'⟩, rfl, q _ _ k2 k3 (I.hok.fresh (Nat.le_succ _))⟩
/-! ### list(d.values()) -/
def tListVals (te : TE) : TE := fun σ H Q => te σ H fun x H1 => ∃ (d : Addr) (kvs : List (Key × V)), x = .ref d ∧ H1 d = some (.dK kvs) ∧ ∀ p, H1 p = none → Q (.ref p) (upd H1 p (.lst (kvs.map (·.2))))
theorem pe_listVals {e : Expr} {te : TE} {p apos cpos pos : Pos} (hc : X.calm = true) (hg : Gl X "list") (hm : X.mg "list" = none) (hv : bootBuiltins "list" = some (.type "list")) (he : PE X e te) (hbase : attributeBase e "values" X.env (eval e X.env) = eval e X.env := by rfl) (hline : (apos.endLine == cpos.line) = true := by rfl)
    (hs : starEach [.Call (.Attribute e "values" apos) [] [] cpos] X.env = (false, eval (.Call (.Attribute e "values" apos) [] [] cpos) X.env) :: starEach [] X.env := by rfl) :
    PE X (.Call (.Name "list" p) [.Call (.Attribute e "values" apos) [] [] cpos] [] pos) (tListVals te) := by
  refine ⟨fun pins s σ H Q I hq => ?_⟩
  refine wpAny_Call_Name_kw (ld_blt I hg hm hv ?_)
  refine PyProof.Rows.callWith_type1 ?_ hs rfl
  rw [hs]
  show wpAny _ _ (spliced ((false, eval (.Call (.Attribute e "values" apos) [] [] cpos) X.env) :: backTo pos (starEach [] X.env))) _ _ s
  refine Calls.spliced_cons ?_
  refine wpAny_Call_method (T := "dict") (id := "dict.values") hbase rfl hline PySem.F.plainAttrs_dict PySem.F.slot_dict_values PySem.F.type_dict_values (thn (he.run pins s σ H _ I hq) fun u s1 ⟨x, H1, I1, rx, d, kvs, ex, hd, q⟩ => ?_)
  subst ex
  obtain rfl : u = Value.ref d := rx
  obtain ⟨hz, hs0, vs, kv, hdo⟩ := I1.hok d _ hd
  obtain ⟨ep, hat⟩ := hdo.dictAt
  have lk : kvs.length = vs.length := Paired.length kv
  have I2 : Inv X pins σ H1 { s1 with heap := s1.heap.push { cls := .type "dict_values", data := .fields #[.ref d] } } := I1.kept (t' := s1.toks) fun b ob q => Heap.get?_push_of_some _ q
  refine ⟨hdo.typeIs, hdo.mapOf.noDict, ?_⟩
  show wpAny _ _ (callWith cpos (.builtin "dict.values") [.ref d] [] []) _ X.xe s1
  refine method_meetsIn PySem.F.slot_dict_values PySem.F.entry_dict_values rfl (PySem.evalArgs_none ⟨rfl, hdo.typeIs, PySem.F.args_dict_values_1 _, _, meets_dict_values (mixKind X.prog X.w) d hs0, ⟨vs, hdo⟩, ?_⟩)
  refine Calls.spliced_nil ?_
  refine PySem.W.kdl_call (PySem.W.kdl_values (knd := mixKind X.prog X.w) (kvs := vs) (ep := ep)) (I1.ok.hd hc) ⟨⟨_, Heap.get?_push_size _ rfl, rfl, rfl⟩, hat.push _⟩ (by omega) fun h' tk acc c hk hS hacc => ?_
  refine ⟨.ref _, upd H1 _ (.lst (kvs.map (·.2))), I2.laid (t' := tk) hk (Nat.le_refl _) ⟨by rw [List.length_map]; omega, acc.toList, c, ?_, by rw [Array.toArray_toList]; exact hS⟩, rfl, q _ (I2.hok.fresh (Nat.le_refl _))⟩
  have el : acc.toList.length = acc.size := by simp
  refine vals_of_at (by rw [List.length_map, el, hacc.1, lk]) fun j x y h1 h2 => ?_
  obtain ⟨k, hk2⟩ := hacc.2 j y (by rw [← Array.getElem?_toList]; exact h2)
  rw [List.getElem?_map] at h1
  cases e1 : kvs[j]? with
  | none =>
    rw [e1] at h1
    cases h1
  | some pk =>
    rw [e1] at h1
    cases h1
    obtain ⟨qv, g1, g2, g3⟩ := LiI.paired_get kv e1
    rw [hk2] at g1
    cases g1
    exact g3
/-! ### len(o) of an instance with a __len__ of its own -/
def rLenOwn (C : Addr) (sp : Sp) : List V → Hp → VK → Prop := fun xs H Q => ∃ a dx fs, xs = [V.ref a] ∧ H a = some (.ins C dx fs) ∧ sp [.ref a] H (fun z H' => ∃ n : Nat, z = .int (n : Int) ∧ n < 2 ^ 62 ∧ Q z H') E0
theorem call_lenOwn {k j : Nat} {C : Addr} {sp : Sp} (c : C8.Met X.prog X.w X.K X.mg X.base k C "__len__" sp []) (hr : Room j X.A) (hk : k + 1 ≤ j) : CallR X (.builtin "len") (rLenOwn C sp) := by
  intro pins s σ H xs us Q I r h
  obtain ⟨a, dx, fs, rfl, ha, q⟩ := h
  obtain ⟨u, rfl, ru⟩ := r.one
  cases (show u = Value.ref a from ru)
  obtain ⟨f, fd, ps, ds, hc, hm, F, b, d⟩ := c.ex
  have ed : ds = [] := by
    cases d
    rfl
  subst ed
  obtain ⟨m, hF⟩ := I.fr
  have hr1 : Room k X.A.in1 := Room.in1 (hr.mono hk)
  have ok := I.hok a _ ha
  obtain ⟨d1, z, ne, e, mA, hN, r1, r2⟩ := ok
  obtain ⟨od, J, _⟩ := L2.ObjM.look (h := s.heap) (x := a) (dx := dx) (C := C) (mA := mA) ⟨e, hN, ne⟩
  refine PySem.W.len_K hF I.ok.mod.kin J hm.at_ hm.fn ?_
  have e1 : Env0 X.prog X.w X.K X.mg X.base X.A.in1 X.stack s H := I.env0.in1
  refine wpAny_call (codeAny_mono (F.run X.A.in1 X.stack s H ⟨[.ref a], []⟩ [.ref a] [.ref a] _ E0 hr1 e1 (b s [.ref a] I.kIn (F.len _ _ _ _ q)) (.cons rfl .nil) q) fun r' s' hq => ?_)
  cases r' with
  | error e => exact (show False from hq).elim
  | ok fl =>
    cases fl with
    | ret u =>
      obtain ⟨v, H', I', rv, n, rfl, hn, q'⟩ := I.after hq
      obtain ⟨t, rfl⟩ := rv
      exact ⟨⟨by omega, by omega⟩, .int _, H', I'.tok _, ⟨_, rfl⟩, q'⟩
    | next => exact False.elim hq
    | brk => exact False.elim hq
    | cont => exact False.elim hq
end
/-! ### zip of two tuples, walked by a comprehension -/
theorem walk_zipT {K : PySem.W.Frag} {a b : Addr} {xs ys : List V} {n : Nat} (hn : n = min xs.length ys.length) : Walk (RZ.ItzT K a b) n (fun H => SqT K H a xs ∧ SqT K H b ys) (YPair (fun i => xs[i]?) (fun i => ys[i]?)) := by
  subst hn
  refine ⟨fun i _ hi q => ?_, fun _ q => ⟨xs, ys, q.1, q.2, by omega⟩, fun i H v H' _ q y => ?_⟩
  · have h1 : i < xs.length := by omega
    have h2 : i < ys.length := by omega
    exact ⟨xs, ys, xs[i], ys[i], q.1, q.2, by simp [h1], by simp [h2]⟩
  · obtain ⟨T, x, z, h1, h2, h3, h4, h5⟩ := y
    exact ⟨T, x, z, h1, h2, h3, h4 xs q.1, h5 ys q.2⟩
end BX
end
section
set_option Elab.async false
set_option linter.all false
set_option maxRecDepth 100000
set_option maxHeartbeats 4000000
/-! sorted(names, key=lambda name: 0 - costs[name]); repr of data. -/
namespace BX
open PySem PySem.Spec PyProof.Rows L2
open LamX (Tabs TabB ExtN)
/-- the lambda's body -/
abbrev lamBody (x d : Str) (j : Nat) (p0 p1 p2 p3 p4 : Pos) : Expr := .BinOp (.Constant (.int 0) j p0) .Sub (.Subscript (.Name d p1) (.Name x p2) p3) p4
abbrev lamScope (x d : Str) : Scope := { kind := .function, names := [(x, .local), (d, .free)], isGenerator := false, isCoroutine := false, more := [] }
abbrev lamArgs (x : Str) (pa : Pos) : Arguments := { posonlyargs := [], args := [{ arg := x, annotation := none, pos := pa }], vararg := none, kwonlyargs := [], kw_defaults := [], kwarg := none, defaults := [] }
section
variable {prog : Program} {w : World} {A : Around} {s : Shared}
/-- one call of it: the heap stays, the number comes -/
theorem lam_turn {x d : Str} {j : Nat} {p0 p1 p2 p3 p4 pa : Pos} {qual : Str} {pm ctv : Value} {f c' cc D : Addr} {i : Int} {vs : List (Key × Value)} {key : Str} {tk0 : Tok} (hxd : x ≠ d)
    (hbx : (x == ("__debug__" : Str)) = false) (hbd : (d == ("__debug__" : Str)) = false) (hcd : (d == ("__classdict__" : Str)) = false)
    (hbind : ∀ v : Value, bindArgs (PySem.W.kla_fn "<lambda>" qual (lamArgs x pa) (lamBody x d j p0 p1 p2 p3 p4) (lamScope x d) [(d, cc)] pm (.ref c') ctv) ⟨[v], []⟩ = pure [(x, v)])
    (hA : A.depth < recursionLimit) (hu : A.units + 10 < cLine) (lim : s.heap.NoLimit) (hf : s.heap.get? f = some (PySem.W.kla_obj "<lambda>" qual (lamArgs x pa) (lamBody x d j p0 p1 p2 p3 p4) (lamScope x d) [(d, cc)] pm c' ctv))
    (hc : s.heap.CodeRec (.ref c') qual) (hcell : s.heap.IsCell cc (some (.ref D))) (hD : s.heap.DictOf (mixKind prog w) D vs) (hv : valueAt vs (Sum.inr key) = some (.int i tk0)) :
    ∀ t : Tok, wpAny (model prog w) A (call (.ref f) [.str key t]) (PySem.W.KeyPure (.int (0 - i)) s) (fun _ _ => False) s := by
  intro t
  refine wpAny_call (PySem.W.kla_callFunE hA hf rfl rfl rfl rfl hc ?_)
  refine wpAny_of_eq (hbind (.str key t)) ?_
  have hcl : ∀ y ∈ (lamScope x d).names, y.2 ≠ .cell := fun y hy => by
    simp at hy
    rcases hy with rfl | rfl <;> simp
  have hlo : ∀ y ∈ [(x, Value.str key t)], (lamScope x d).names.lookup y.1 = some .local := fun y hy => by
    simp at hy
    subst hy
    simp [List.lookup]
  refine wpAny_newFunctionEnv hcl hlo (fun h₁ hns hsb => ?_) rfl
  refine ⟨lim.fresh _ hsb, ?_⟩
  have kp : ∀ b o, s.heap.get? b = some o → h₁.get? b = some o := fun b o e => hsb.extBut b o (Nat.ne_of_lt (Heap.lt_size e)) (Heap.get?_push_of_some _ e)
  refine PySem.W.kla_codeExpr ?_
  have hxd' : (d == x) = false := beq_eq_false_iff_ne.mpr fun e => hxd e.symm
  refine wpAny_BinOp (wpAny_Constant_int ?_)
  refine subD_of PySem.F.slot_dict_getitem.lookup (fun _ _ => rfl) ?_
  refine wpAny_Name (wpAny_loadName_free rfl ?_ (c := cc) ?_ (v := .ref D) ?_ ?_ hcd) hbd
  · show (lamScope x d).names.lookup d = some .free
    simp [List.lookup, hxd']
  · show ([(d, cc)] : List (Str × Addr)).lookup d = some cc
    simp [List.lookup]
  · obtain ⟨o, ho, hd⟩ := hcell
    exact ⟨o, kp _ _ ho, hd⟩
  refine wpAny_Name (wpAny_loadName_local rfl ?_ hns (v := .str key t) ?_ ?_) hbx
  · show (lamScope x d).names.lookup x = some .local
    simp [List.lookup]
  · simp [List.lookup]
  have hD' : h₁.DictOf (mixKind prog w) D vs := by
    obtain ⟨o, es, ep, ho, r⟩ := hD
    exact ⟨o, es, ep, kp _ _ ho, r⟩
  refine ⟨hD'.typeIs, ?_⟩
  refine wpAny_getItem_of (knd := mixKind prog w) (k := Sum.inr key) (mixKind_str prog w key t) hD'.mapOf hv ?_
  refine sub_int ?_
  exact ⟨h₁, _, rfl, kp, .int _ _⟩
end
section
variable {X : Cx}
/-- sorted(e, key=lambda x: 0 - d[x]): e a list of texts, d a dict of ints -/
def tSortLam (K : PySem.W.Frag) (T : List (Addr × Str)) (ic : Nat) (te : TE) : TE := fun σ H Q => te σ H fun v H1 => ∃ (a D : Addr) (xs : List Str) (kvs : List (Key × V)) (cost : Str → Int), v = .ref a ∧ SqL K H1 a (xs.map V.str) ∧ σ[ic]? = some (some (.ref D)) ∧ H1 D = some (.dK kvs) ∧
  (∀ x ∈ xs, valV kvs (Sum.inr x) = some (.int (cost x))) ∧ Tabs T H1 ∧ ∀ (p : Addr) (H2 : Hp), ExtN H1 H2 → Tabs T H2 → H2 p = none → Q (.ref p) (upd H2 p (.lst ((xs.mergeSort fun y z => decide (0 - cost y ≤ 0 - cost z)).map V.str)))
theorem pe_sortLam {T : List (Addr × Str)} {x d : Str} {j ic k : Nat} {c P : Addr} {e : Expr} {te : TE} {p pos lpos kpos p0 p1 p2 p3 p4 pa : Pos} (hc : X.calm = true) (hg : Gl X "sorted") (hm : X.mg "sorted" = none) (hv : bootBuiltins "sorted" = some (.builtin "sorted")) (hr : Room (k + 4) X.A)
    (TB : TabB X.base X.mg c P) (hcode : X.env.code = .ref c) (hmT : (P, X.env.qual ++ "<lambda>") ∈ T) (hu : ∀ q ∈ T, q.1 = P → q.2 = X.env.qual ++ "<lambda>") (hN : X.N[ic]? = some d) (hcel : X.env.kindOf d = some .cell) (hxd : x ≠ d)
    (hbx : (x == ("__debug__" : Str)) = false) (hbd : (d == ("__debug__" : Str)) = false) (hcd : (d == ("__classdict__" : Str)) = false) (he : PE X e te)
    (hbind : ∀ (q : Str) (cl : List (Str × Addr)) (pm cv ctv v : Value), bindArgs (PySem.W.kla_fn "<lambda>" q (lamArgs x pa) (lamBody x d j p0 p1 p2 p3 p4) (lamScope x d) cl pm cv ctv) ⟨[v], []⟩ = pure [(x, v)])
    (hst : backTo pos (starEach [e] X.env) = (false, eval e X.env) :: backTo pos (starEach [] X.env) := by rfl) (hpl : (backTo pos (starEach [e] X.env)).any (·.1) = false := by rfl) :
    PE X (.Call (.Name "sorted" p) [e] [⟨some "key", .Lambda (lamArgs x pa) (lamBody x d j p0 p1 p2 p3 p4) (lamScope x d) lpos, kpos⟩] pos) (tSortLam X.K T ic te) := by
  refine ⟨fun pins s σ H Q I h => ?_⟩
  refine wpAny_Call_Name_kw (ld_blt I hg hm hv ?_)
  refine PyProof.Rows.callWith_kw ?_ hst hpl rfl rfl
  rw [hst]
  refine Calls.spliced_cons (thn (he.run pins s σ H _ I h) fun u s1 ⟨v, H1, I1, rv, q1⟩ => Calls.spliced_nil ?_)
  obtain ⟨a, D, xs, kvs, cost, rfl, hl, hσ, hD, hcost, hT, q⟩ := q1
  obtain rfl : u = Value.ref a := rv
  show wpAny _ _ (evalAll [(do let v ← eval (.Lambda (lamArgs x pa) (lamBody x d j p0 p1 p2 p3 p4) (lamScope x d) lpos) X.env; standAt pos; pure v)]) _ _ s1
  have hfree : ∀ y ∈ (lamScope x d).names, y.2 = .free → ∃ c, X.env.cells.lookup y.1 = some c := fun y hy ey => by
    simp at hy
    rcases hy with rfl | rfl
    · cases ey
    · exact I1.ok.has _ (.inl hcel)
  refine wpAny_evalAll_cons (wpAny_bind (LamX.lam_make2 I1 TB hcode hmT hu hT rfl hfree fun f c' pm ctv H2 s2 I2 eN T2 hf hfn hfr hco => wpAny_bind (wpAny_standAt (wpAny_pure ?_))))
  refine wpAny_evalAll_nil ?_
  obtain ⟨cc, hcc⟩ := I2.ok.has d (.inl hcel)
  have hclo : cloFrom X.env.cells (lamScope x d).names [] = [(d, cc)] := by
    unfold cloFrom cloFrom cloFrom
    rw [if_neg (by decide), if_pos (by decide), hcc] <;> rfl
  rw [hclo] at hf
  obtain ⟨mL, hns, hlook⟩ := I2.loc
  obtain ⟨uD, rD, lk⟩ := hlook ic d (.ref D) hN hσ (.inr (.inl hcel))
  obtain rfl : uD = Value.ref D := rD
  have hcell : s2.heap.IsCell cc (some (.ref D)) := by
    rcases lk with ⟨k1, _⟩ | ⟨_, c3, e3, z3⟩
    · rw [hcel] at k1
      cases k1
    · rw [hcc] at e3
      cases e3
      exact z3
  have hD2 : H2 D = some (.dK kvs) := eN D _ hD fun ps z => by cases z
  obtain ⟨hz, hs0, vs, kv, hdo⟩ := I2.hok D _ hD2
  have hl2 : SqL X.K H2 a (xs.map V.str) := by
    rcases hl with (hl | ⟨o, hl⟩) | hl
    · exact .inl (.inl (eN _ _ hl fun ps z => by cases z))
    · exact .inl (.inr ⟨o, eN _ _ hl fun ps z => by cases z⟩)
    · exact .inr hl
  obtain ⟨its, rits, pl, hzl⟩ := I2.list hl2
  have lenI : its.length = xs.length := by rw [← rits.length, List.length_map]
  obtain ⟨⟨oc, cvs, tq, hoc, hdc, hvc⟩, _, _⟩ := I2.hok c' _ hco
  have each : PySem.W.EachIs (fun (v : Value) (y : Str) => ∃ t, v = .str y t) its xs := by
    refine PySem.W.EachIs.of_zip lenI fun q hq => ?_
    obtain ⟨n, hn, e⟩ := List.mem_iff_getElem.mp hq
    rw [List.getElem_zip] at e
    rw [List.length_zip] at hn
    obtain ⟨w', e1, t, e2⟩ := rits.get (i := n) (x := .str (xs[n]'(by omega))) (by rw [List.getElem?_map, List.getElem?_eq_getElem (by omega)] <;> rfl)
    refine ⟨t, ?_⟩
    rw [← e]
    show its[n] = _
    rw [← e2]
    exact (List.getElem?_eq_some_iff.mp e1).2
  have hA := hr.dp
  have hAu := hr.un
  refine PySem.W.sorted_key_data (b := false) (R := fun (v : Value) (y : Str) => ∃ t, v = .str y t) (bs := xs) (fun y => PyData.int (0 - cost y)) pl.isList each (PySem.W.AllAlike.of fun _ _ => by simp [PySem.W.alike]) (PySem.W.Sortable.others fun _ => ⟨(fun z => by cases z), fun _ z => by cases z⟩)
    (by rw [List.length_map] at hzl; exact hzl) (fun y _ => ?_) (PyProof.Rows.ksk_s1 _ _) (fun _ => PyProof.Rows.ksk_l1 _ _) (fun _ => PyProof.Rows.ksk_t1 _ _) (fun v y hv hy h tk kp => ?_) fun out cn h' tk kp fresh hout hlen eo => ?_
  · simp only [PyData.depth]
    omega
  · obtain ⟨t, rfl⟩ := hv
    have hval : ∃ w', valueAt vs (Sum.inr y : Key) = some w' ∧ RelV (.int (cost y)) w' := RelO.some_of (v := .int (cost y)) (by rw [← hcost y hy]; exact kv.val (Sum.inr y))
    obtain ⟨w', hw, tw, rfl⟩ := hval
    refine lam_turn (A := X.A.in1.in1) (s := { s2 with heap := h, toks := tk }) (D := D) (vs := vs) hxd hbx hbd hcd (hbind _ _ _ _ _) (by show X.A.depth < _; omega) (by show X.A.units + 1 + 1 + 10 < _; omega) (I2.nolimit.keeps kp) (kp _ _ hf) ⟨c', oc, cvs, tq, rfl, kp _ _ hoc, hdc, hvc⟩ ?_ ?_ hw t
    · obtain ⟨o, ho, hd⟩ := hcell
      exact ⟨o, kp _ _ ho, hd⟩
    · obtain ⟨o, es, ep, ho, r⟩ := hdo
      exact ⟨o, es, ep, kp _ _ ho, r⟩
  · rw [PySem.W.dataLe_int] at eo
    have lout : out.length = (xs.mergeSort fun y z => decide (0 - cost y ≤ 0 - cost z)).length := eo.length
    have ro : Vals ((xs.mergeSort fun y z => decide (0 - cost y ≤ 0 - cost z)).map V.str) out := by
      refine vals_of_at (by rw [List.length_map, lout]) fun n vn un h1 h2 => ?_
      have hn : n < out.length := (List.getElem?_eq_some_iff.mp h2).1
      have hn2 : n < (xs.mergeSort fun y z => decide (0 - cost y ≤ 0 - cost z)).length := by omega
      rw [List.getElem?_map, List.getElem?_eq_getElem hn2] at h1
      cases h1
      have hz := eo.zip (out[n], (xs.mergeSort fun y z => decide (0 - cost y ≤ 0 - cost z))[n]) (List.mem_iff_getElem.mpr ⟨n, by rw [List.length_zip]; omega, by rw [List.getElem_zip]⟩)
      obtain ⟨t, et⟩ := hz
      rw [List.getElem?_eq_getElem hn] at h2
      cases h2
      exact ⟨t, et⟩
    refine ⟨.ref _, upd H2 _ (.lst ((xs.mergeSort fun y z => decide (0 - cost y ≤ 0 - cost z)).map V.str)), I2.laid (t' := tk) kp (Nat.le_succ _) ⟨?_, out, cn, ro, hout⟩, rfl, q _ H2 eN T2 (I2.hok.fresh (Nat.le_succ _))⟩
    rw [List.length_map, List.length_mergeSort]
    rw [List.length_map] at hzl
    exact hzl
/-! ### repr of data -/
/-- x reads as d off H: whatever concrete heap bears H -/
def RdsV (P : Program) (w : World) (K : PySem.W.Frag) (H : Hp) (x : V) (d : PyData) : Prop := ∀ (h : Heap) (u : Value), K.In h → HOk P w H h → RelV x u → ∃ as, Reads h u d as ∧ sysModules ∉ as
def RdsL (P : Program) (w : World) (K : PySem.W.Frag) (H : Hp) (xs : List V) (ds : List PyData) : Prop := ∀ (h : Heap) (us : List Value), K.In h → HOk P w H h → Vals xs us → ∃ as, ReadsAll h us ds as ∧ sysModules ∉ as
end
section
variable {P : Program} {w : World} {K : PySem.W.Frag} {H : Hp}
theorem rdsL_nil : RdsL P w K H [] [] := fun h us _ _ r => by
  cases r
  exact ⟨[], .nil, by simp⟩
theorem rdsL_cons {x : V} {xs : List V} {d : PyData} {ds : List PyData} (a : RdsV P w K H x d) (b : RdsL P w K H xs ds) : RdsL P w K H (x :: xs) (d :: ds) := fun h us KX ok r => by
  cases r with
  | cons r1 r2 =>
    obtain ⟨as, h1, n1⟩ := a h _ KX ok r1
    obtain ⟨bs, h2, n2⟩ := b h _ KX ok r2
    exact ⟨as ++ bs, .cons h1 h2, fun z => (List.mem_append.mp z).elim n1 n2⟩
theorem rdsL_map {α : Type} {f : α → V} {g : α → PyData} (a : ∀ z, RdsV P w K H (f z) (g z)) : ∀ l : List α, RdsL P w K H (l.map f) (l.map g)
  | [] => rdsL_nil
  | z :: l => rdsL_cons (a z) (rdsL_map a l)
theorem rds_int (i : Int) : RdsV P w K H (.int i) (.int i) := fun h u _ _ ⟨t, e⟩ => by
  subst e
  exact ⟨[], .int i t, by simp⟩
theorem rds_str (x : Str) : RdsV P w K H (.str x) (.str x) := fun h u _ _ ⟨t, e⟩ => by
  subst e
  exact ⟨[], .str x t, by simp⟩
/-- no list stands at the modules' dict -/
theorem rds_lst {a : Addr} {xs : List V} {ds : List PyData} (ha : H a = some (.lst xs)) (hs : a ≠ sysModules) (h : RdsL P w K H xs ds) : RdsV P w K H (.ref a) (.list ds) := fun hp u KX ok e => by
  obtain rfl : u = Value.ref a := e
  obtain ⟨z, its, n, r, ho⟩ := ok a _ ha
  obtain ⟨as, h1, n1⟩ := h hp _ KX ok r
  exact ⟨a :: as, .list ho rfl rfl (by simpa using h1), fun z => (List.mem_cons.mp z).elim (fun q => hs q.symm) n1⟩
theorem rds_tup {a : Addr} {xs : List V} {ds : List PyData} (ha : H a = some (.tup xs)) (h : RdsL P w K H xs ds) : RdsV P w K H (.ref a) (.tuple ds) := fun hp u KX ok e => by
  obtain rfl : u = Value.ref a := e
  obtain ⟨z, its, r, o, ho, hc, n, hd⟩ := ok a _ ha
  obtain ⟨as, h1, n1⟩ := h hp _ KX ok r
  exact ⟨as, .tuple ho hc hd (by simpa using h1), n1⟩
end
end BX
end
section
set_option Elab.async false
set_option linter.all false
set_option maxRecDepth 100000
set_option maxHeartbeats 4000000
/-! repr of what was told; a def that is called where no repr runs. -/
namespace BX
open PySem PySem.Spec PyProof.Rows L2
section
variable {P : Program} {w : World} {K : PySem.W.Frag} {H : Hp}
theorem pairs_read {α : Type} {f : α → Str} {g : α → Int} {h : Heap} : ∀ {l : List α} {vs : List (Key × Value)} {es : List DictEntry}, KV (l.map fun z => ((Sum.inr (f z) : Key), V.int (g z))) vs → Pairs (mixKind P w) es vs →
    ReadsAll h (es.map (·.key)) (l.map fun z => PyData.str (f z)) [] ∧ ReadsAll h (es.map (·.val)) (l.map fun z => PyData.int (g z)) []
  | [], _, _, .nil, .nil => ⟨.nil, .nil⟩
  | z :: l, _, _, .cons r rs, .cons p1 p2 ps => by
    obtain ⟨h1, h2⟩ := pairs_read (h := h) rs ps
    obtain ⟨e1, t, e2⟩ := r
    rename_i b l2 e es
    obtain ⟨k, u⟩ := b
    obtain ⟨eh, ek, ev⟩ := e
    simp only at e1 e2 p1 p2
    subst e1
    subst e2
    subst p2
    have ek0 : ∃ t', ek = Value.str (f z) t' := by
      rcases keyIs_shape (k := Sum.inr (f z)) (v := ek) p1 with ⟨i, t, a, b⟩ | ⟨y, t, a, b⟩
      · cases a
      · cases a
        exact ⟨t, b⟩
    obtain ⟨t', rfl⟩ := ek0
    exact ⟨.cons (as := []) (bs := []) (.str _ _) h1, .cons (as := []) (bs := []) (.int _ _) h2⟩
/-- a dict of texts to ints -/
theorem rds_dict {α : Type} {f : α → Str} {g : α → Int} {a : Addr} {l : List α} (ha : H a = some (.dK (l.map fun z => ((Sum.inr (f z) : Key), V.int (g z))))) : RdsV P w K H (.ref a) (.dict (l.map fun z => (.str (f z), .int (g z)))) := fun hp u KX ok e => by
  obtain rfl : u = Value.ref a := e
  obtain ⟨z, hs, vs, kv, o, es, ep, ho, hex, hd, _, hp2, _⟩ := ok a _ ha
  obtain ⟨h1, h2⟩ := pairs_read (h := hp) kv hp2
  refine ⟨[a] ++ [], .dict (as := []) (bs := []) ho hex.1 hd (by rw [List.map_map]; exact h1) (by rw [List.map_map]; exact h2), ?_⟩
  simp
  exact fun q => by
    rw [q] at hs
    simp at hs
end
section
variable {X : Cx}
def rReprD (X : Cx) : List V → Hp → VK → Prop := fun vs H Q => ∃ (a : Addr) (d : PyData), vs = [.ref a] ∧ RdsV X.prog X.w X.K H (.ref a) d ∧ d.showable = true ∧ d.depth ≤ 20 ∧ d.shown.length ≤ sizeLine ∧ Q (.str d.shown) H
theorem call_reprD (hg : X.A.guards = some []) (hu : X.A.units + 64 < cLine) : CallR X (.builtin "repr") (rReprD X) := by
  intro pins s σ H vs us Q I r h
  obtain ⟨a, d, rfl, hr, hs, hd, hz, q⟩ := h
  rw [Vals.ref1 r]
  obtain ⟨as, rd, nm⟩ := hr s.heap (.ref a) I.kIn I.hok rfl
  refine repr_of_reads' rd hs (fun _ => nm) hg (by omega) (fun _ _ e => e) (fun h' u tk hk => ?_) hz
  exact ⟨.str d.shown, H, I.kept (t' := tk) hk, ⟨u, rfl⟩, q⟩
end
/-! ### how long such texts are -/
theorem textFrom_le : ∀ (ts : List Str) (k : Nat) (acc : Str), (textFrom k acc ts).length ≤ acc.length + piled ts
  | [], k, acc => by
    show acc.length ≤ acc.length + piled []
    omega
  | t :: r, k, acc => by
    have ih := textFrom_le r (k + 1) (acc ++ (if k > 0 then ", " else "" : String) ++ t)
    have e : (acc ++ (if k > 0 then ", " else "" : String) ++ t).length ≤ acc.length + 2 + t.length := by
      rw [strLen_append, strLen_append]
      have : ((if k > 0 then ", " else "" : String) : Str).length ≤ 2 := by
        split <;> decide
      omega
    rw [piled_cons]
    show (textFrom (k + 1) _ r).length ≤ _
    omega
theorem listText_le (ts : List Str) : (listText ts).length ≤ 2 + piled ts := by
  unfold listText
  rw [strLen_append]
  have := textFrom_le ts 0 "["
  have e1 : (("[" : String) : Str).length = 1 := rfl
  have e2 : (("]" : String) : Str).length = 1 := rfl
  omega
theorem join_le (ts : List Str) : (Str.join ", " ts).length ≤ piled ts := by
  cases ts with
  | nil => simp [Str.join, piled] <;> rfl
  | cons t r =>
    have := join_length_add (t :: r) (by simp)
    omega
theorem dictText_le (ts : List Str) : (dictText ts).length ≤ 2 + piled ts := by
  unfold dictText
  rw [strLen_append, strLen_append]
  have := join_le ts
  have e1 : (("{" : String) : Str).length = 1 := rfl
  have e2 : (("}" : String) : Str).length = 1 := rfl
  omega
theorem tupleText_le (ts : List Str) : (tupleText ts).length ≤ 3 + piled ts := by
  unfold tupleText
  rw [strLen_append, strLen_append]
  have := join_le ts
  have e1 : (("(" : String) : Str).length = 1 := rfl
  have e2 : ((if ts.length == 1 then ",)" else ")" : String) : Str).length ≤ 2 := by
    split <;> decide
  omega
theorem piled_le {B : Nat} : ∀ {ts : List Str}, (∀ t ∈ ts, t.length ≤ B) → piled ts ≤ ts.length * (B + 2)
  | [], _ => by simp [piled]
  | t :: r, h => by
    rw [piled_cons, List.length_cons, Nat.succ_mul]
    have h1 := h t List.mem_cons_self
    have h2 := piled_le fun u hu => h u (List.mem_cons_of_mem t hu)
    omega
theorem shownAll_map {α : Type} (f : α → PyData) : ∀ l : List α, PyData.shownAll (l.map f) = l.map fun z => (f z).shown
  | [] => by simp only [List.map_nil, PyData.shownAll]
  | z :: l => by simp only [List.map_cons, PyData.shownAll, shownAll_map f l]
theorem shownKv_map {α : Type} (f g : α → PyData) : ∀ l : List α, PyData.shownKv (l.map fun z => (f z, g z)) = l.map fun z => (f z).shown ++ ": " ++ (g z).shown
  | [] => by simp only [List.map_nil, PyData.shownKv]
  | z :: l => by simp only [List.map_cons, PyData.shownKv, shownKv_map f g l]
theorem showableAll_map {α : Type} (f : α → PyData) : ∀ l : List α, (∀ z ∈ l, (f z).showable = true) → PyData.showableAll (l.map f) = true
  | [], _ => by simp only [List.map_nil, PyData.showableAll]
  | z :: l, h => by simp only [List.map_cons, PyData.showableAll, h z List.mem_cons_self, showableAll_map f l fun y hy => h y (List.mem_cons_of_mem z hy), Bool.and_self]
theorem showableKv_map {α : Type} (f g : α → PyData) : ∀ l : List α, (∀ z ∈ l, (f z).showable = true ∧ (g z).showable = true) → PyData.showableKv (l.map fun z => (f z, g z)) = true
  | [], _ => by simp only [List.map_nil, PyData.showableKv]
  | z :: l, h => by simp only [List.map_cons, PyData.showableKv, (h z List.mem_cons_self).1, (h z List.mem_cons_self).2, showableKv_map f g l fun y hy => h y (List.mem_cons_of_mem z hy), Bool.and_self]
theorem depthAll_map {α : Type} (f : α → PyData) (n : Nat) : ∀ l : List α, (∀ z ∈ l, (f z).depth ≤ n) → PyData.depthAll (l.map f) ≤ n
  | [], _ => by simp only [List.map_nil, PyData.depthAll]; omega
  | z :: l, h => by
    have h1 := h z List.mem_cons_self
    have h2 := depthAll_map f n l fun y hy => h y (List.mem_cons_of_mem z hy)
    simp only [List.map_cons, PyData.depthAll]
    omega
theorem depthKv_map {α : Type} (f g : α → PyData) (n : Nat) : ∀ l : List α, (∀ z ∈ l, (f z).depth ≤ n ∧ (g z).depth ≤ n) → PyData.depthKv (l.map fun z => (f z, g z)) ≤ n
  | [], _ => by simp only [List.map_nil, PyData.depthKv]; omega
  | z :: l, h => by
    have h1 := h z List.mem_cons_self
    have h2 := depthKv_map f g n l fun y hy => h y (List.mem_cons_of_mem z hy)
    simp only [List.map_cons, PyData.depthKv]
    omega
/-- what cheapest tells, as data -/
def resD (nests : List (List Str)) (wi wo : List (Str × Int)) : PyData :=
  .tuple [.list (nests.map fun n => .list (n.map .str)), .dict (wi.map fun p => (.str p.1, .int p.2)), .dict (wo.map fun p => (.str p.1, .int p.2))]
/-- a short text of plain signs -/
def ShortN (x : Str) : Prop := x.length ≤ 8 ∧ ∀ c ∈ x.cps.toList, c < 16 ^ 8
theorem shown_name {x : Str} (h : ShortN x) : (PyData.shown (.str x)).length ≤ 82 := by
  simp only [PyData.shown]
  have h1 := PySem.StrLaws.reprText_len x h.2
  have h2 := h.1
  omega
theorem int_small {i : Int} (h : i.natAbs < 2 ^ 64) : i.natAbs.log2 < 1920 ∧ (PyData.shown (.int i)).length ≤ 70 := by
  refine ⟨?_, ?_⟩
  · by_cases h0 : i.natAbs = 0
    · rw [h0]
      decide
    · have := (Nat.log2_lt h0).mpr h
      omega
  · simp only [PyData.shown]
    have e := PySem.ofString_length (toString i)
    have h2 := int_text_length_le (a := i) (k := 64) (by decide) (by
      by_cases h0 : i.natAbs = 0
      · rw [h0]
        decide
      · exact (Nat.log2_lt h0).mpr h)
    rw [e]
    omega
theorem shown_res {nests : List (List Str)} {wi wo : List (Str × Int)} (h1 : nests.length ≤ 12) (h2 : ∀ n ∈ nests, n.length ≤ 12) (h3 : ∀ n ∈ nests, ∀ x ∈ n, ShortN x) (h4 : wi.length ≤ 12) (h5 : wo.length ≤ 12)
    (h6 : ∀ p ∈ wi, ShortN p.1 ∧ p.2.natAbs < 2 ^ 64) (h7 : ∀ p ∈ wo, ShortN p.1 ∧ p.2.natAbs < 2 ^ 64) :
    (resD nests wi wo).showable = true ∧ (resD nests wi wo).depth ≤ 20 ∧ (resD nests wi wo).shown.length ≤ sizeLine := by
  have dictL : ∀ l : List (Str × Int), l.length ≤ 12 → (∀ p ∈ l, ShortN p.1 ∧ p.2.natAbs < 2 ^ 64) → (PyData.shown (.dict (l.map fun p => (.str p.1, .int p.2)))).length ≤ 2000 := by
    intro l hl hp
    simp only [PyData.shown, shownKv_map]
    refine Nat.le_trans (dictText_le _) ?_
    have q : ∀ t ∈ l.map (fun z => reprText z.1 ++ ": " ++ Str.ofString (toString z.2)), t.length ≤ 154 := by
      intro t ht
      obtain ⟨p, hm, e⟩ := List.mem_map.mp ht
      rw [← e, strLen_append, strLen_append]
      have a1 := shown_name (hp p hm).1
      have a2 := (int_small (hp p hm).2).2
      simp only [PyData.shown] at a1 a2
      have a3 : ((": " : String) : Str).length = 2 := rfl
      omega
    have q2 := piled_le q
    rw [List.length_map] at q2
    have q3 : l.length * (154 + 2) ≤ 12 * 156 := Nat.mul_le_mul_right _ hl
    omega
  refine ⟨?_, ?_, ?_⟩
  · unfold resD
    simp only [PyData.showable, PyData.showableAll, Bool.and_true, Bool.and_eq_true]
    refine ⟨showableAll_map _ _ fun n hn => ?_, showableKv_map _ _ _ fun p hp => ?_, showableKv_map _ _ _ fun p hp => ?_⟩
    · simp only [PyData.showable]
      exact showableAll_map _ _ fun x _ => by simp only [PyData.showable]
    · simp only [PyData.showable, true_and]
      exact decide_eq_true (int_small (h6 p hp).2).1
    · simp only [PyData.showable, true_and]
      exact decide_eq_true (int_small (h7 p hp).2).1
  · unfold resD
    have a1 := depthAll_map (fun n : List Str => PyData.list (n.map .str)) 1 nests fun n hn => by
      simp only [PyData.depth]
      have := depthAll_map PyData.str 0 n fun x _ => by simp only [PyData.depth]; omega
      omega
    have a2 := depthKv_map (fun p : Str × Int => PyData.str p.1) (fun p => PyData.int p.2) 0 wi fun p _ => by simp only [PyData.depth]; omega
    have a3 := depthKv_map (fun p : Str × Int => PyData.str p.1) (fun p => PyData.int p.2) 0 wo fun p _ => by simp only [PyData.depth]; omega
    simp only [PyData.depth, PyData.depthAll]
    omega
  · unfold resD
    have b1 : (PyData.shown (.list (nests.map fun n => .list (n.map .str)))).length ≤ 20000 := by
      simp only [PyData.shown, shownAll_map]
      refine Nat.le_trans (listText_le _) ?_
      have q : ∀ t ∈ nests.map (fun n => listText (n.map fun z => reprText z)), t.length ≤ 1100 := by
        intro t ht
        obtain ⟨n, hm, e⟩ := List.mem_map.mp ht
        rw [← e]
        refine Nat.le_trans (listText_le _) ?_
        have q0 : ∀ t ∈ n.map (fun z => reprText z), t.length ≤ 82 := by
          intro t ht
          obtain ⟨x, hx, e⟩ := List.mem_map.mp ht
          rw [← e]
          have := shown_name (h3 n hm x hx)
          simpa only [PyData.shown] using this
        have q1 := piled_le q0
        rw [List.length_map] at q1
        have q3 : n.length * (82 + 2) ≤ 12 * 84 := Nat.mul_le_mul_right _ (h2 n hm)
        omega
      have q2 := piled_le q
      rw [List.length_map] at q2
      have q3 : nests.length * (1100 + 2) ≤ 12 * 1102 := Nat.mul_le_mul_right _ h1
      omega
    have b2 := dictL wi h4 h6
    have b3 := dictL wo h5 h7
    have e : PyData.shown (.tuple [.list (nests.map fun n => .list (n.map .str)), .dict (wi.map fun p => (.str p.1, .int p.2)), .dict (wo.map fun p => (.str p.1, .int p.2))]) =
      tupleText [PyData.shown (.list (nests.map fun n => .list (n.map .str))), PyData.shown (.dict (wi.map fun p => (.str p.1, .int p.2))), PyData.shown (.dict (wo.map fun p => (.str p.1, .int p.2)))] := by
      simp only [PyData.shown, PyData.shownAll]
    rw [e]
    refine Nat.le_trans (tupleText_le _) ?_
    rw [piled_cons, piled_cons, piled_cons, piled_nil, sizeLine_eq]
    omega
end BX
end
section
/-! Matching by growing (plain Lean). -/
set_option linter.all false
namespace KM
section
variable {κ β : Type} [DecidableEq κ]
def look : List (κ × β) → κ → Option β
  | [], _ => none
  | p :: r, k => if p.1 = k then some p.2 else look r k
def put : List (κ × β) → κ → β → List (κ × β)
  | [], k, v => [(k, v)]
  | p :: r, k, v => if p.1 = k then (k, v) :: r else p :: put r k v
theorem look_put (w : List (κ × β)) (k j : κ) (v : β) : look (put w k v) j = if j = k then some v else look w j := by
  induction w with
  | nil =>
    unfold put look look
    by_cases h : j = k
    · rw [if_pos h, if_pos h.symm]
    · rw [if_neg h, if_neg (fun z => h z.symm)]
  | cons p r ih =>
    unfold put
    by_cases h : p.1 = k
    · rw [if_pos h]
      show (if k = j then some v else look r j) = if j = k then some v else (if p.1 = j then some p.2 else look r j)
      by_cases hj : j = k
      · rw [if_pos hj, if_pos hj.symm]
      · rw [if_neg hj, if_neg (fun z => hj z.symm), if_neg (fun z => hj (z.symm.trans h))]
    · rw [if_neg h]
      show (if p.1 = j then some p.2 else look (put r k v) j) = if j = k then some v else (if p.1 = j then some p.2 else look r j)
      rw [ih]
      by_cases hj : j = k
      · rw [if_pos hj, if_pos hj, if_neg (fun z => h (z.trans hj))]
      · rw [if_neg hj, if_neg hj]
theorem look_put_same (w : List (κ × β)) (k : κ) (v : β) : look (put w k v) k = some v := by rw [look_put, if_pos rfl]
theorem look_put_ne (w : List (κ × β)) {k j : κ} (v : β) (h : j ≠ k) : look (put w k v) j = look w j := by rw [look_put, if_neg h]
theorem look_some_mem {w : List (κ × β)} {k : κ} {v : β} (h : look w k = some v) : (k, v) ∈ w := by
  induction w with
  | nil => cases h
  | cons p r ih =>
    unfold look at h
    by_cases e : p.1 = k
    · rw [if_pos e] at h
      cases h
      rw [← e]
      exact List.mem_cons_self
    · rw [if_neg e] at h
      exact List.mem_cons_of_mem _ (ih h)
theorem look_none {w : List (κ × β)} {k : κ} : look w k = none ↔ k ∉ w.map (·.1) := by
  induction w with
  | nil => simp [look]
  | cons p r ih =>
    unfold look
    by_cases e : p.1 = k
    · simp [e]
    · rw [if_neg e, ih]
      simp [Ne.symm e]
theorem look_mem {w : List (κ × β)} {k : κ} (h : k ∈ w.map (·.1)) : ∃ v, look w k = some v := by
  cases e : look w k with
  | some v => exact ⟨v, rfl⟩
  | none => exact absurd h (look_none.mp e)
theorem mem_of_look {w : List (κ × β)} {k : κ} {v : β} (h : look w k = some v) : k ∈ w.map (·.1) := List.mem_map_of_mem (look_some_mem h)
theorem look_of_mem {w : List (κ × β)} (hn : (w.map (·.1)).Nodup) {k : κ} {v : β} (h : (k, v) ∈ w) : look w k = some v := by
  induction w with
  | nil => cases h
  | cons p r ih =>
    rw [List.map_cons, List.nodup_cons] at hn
    unfold look
    rcases List.mem_cons.mp h with e | e
    · rw [← e, if_pos rfl]
    · have hk : k ∈ r.map (·.1) := List.mem_map_of_mem (f := (·.1)) e
      rw [if_neg (fun z => hn.1 (by rw [z]; exact hk))]
      exact ih hn.2 e
theorem put_keys_old {w : List (κ × β)} {k : κ} (v : β) (h : k ∈ w.map (·.1)) : (put w k v).map (·.1) = w.map (·.1) := by
  induction w with
  | nil => cases h
  | cons p r ih =>
    unfold put
    by_cases e : p.1 = k
    · rw [if_pos e]
      simp [e]
    · rw [if_neg e, List.map_cons, List.map_cons]
      rw [List.map_cons, List.mem_cons] at h
      rw [ih (h.resolve_left (fun z => e z.symm))]
theorem put_new {w : List (κ × β)} {k : κ} (v : β) (h : k ∉ w.map (·.1)) : put w k v = w ++ [(k, v)] := by
  induction w with
  | nil => rfl
  | cons p r ih =>
    rw [List.map_cons, List.mem_cons] at h
    unfold put
    rw [if_neg (fun z => h (.inl z.symm)), ih (fun z => h (.inr z))]
    rfl
theorem put_keys_mem (w : List (κ × β)) (k j : κ) (v : β) : j ∈ (put w k v).map (·.1) ↔ j = k ∨ j ∈ w.map (·.1) := by
  by_cases h : k ∈ w.map (·.1)
  · rw [put_keys_old v h]
    constructor
    · exact .inr
    · rintro (rfl | z)
      · exact h
      · exact z
  · rw [put_new v h, List.map_append, List.mem_append]
    simp
    exact Or.comm
theorem put_nodup {w : List (κ × β)} (hn : (w.map (·.1)).Nodup) (k : κ) (v : β) : ((put w k v).map (·.1)).Nodup := by
  by_cases h : k ∈ w.map (·.1)
  · rw [put_keys_old v h]
    exact hn
  · rw [put_new v h, List.map_append]
    rw [List.nodup_append]
    refine ⟨hn, by simp, fun a ha b hb => ?_⟩
    have hb' : b = k := by simpa using hb
    rw [hb']
    exact fun z => h (z ▸ ha)
theorem put_vals_new {w : List (κ × β)} {k : κ} (v : β) (h : look w k = none) : ((put w k v).map (·.2)).Perm (v :: w.map (·.2)) := by
  rw [put_new v (look_none.mp h), List.map_append]
  exact List.perm_append_singleton v _
theorem put_vals_old {w : List (κ × β)} {k : κ} {u : β} (v : β) (h : look w k = some u) : (u :: (put w k v).map (·.2)).Perm (v :: w.map (·.2)) := by
  induction w with
  | nil => cases h
  | cons p r ih =>
    unfold look at h
    unfold put
    by_cases e : p.1 = k
    · rw [if_pos e] at h ⊢
      cases h
      rw [List.map_cons, List.map_cons]
      exact List.Perm.swap _ _ _
    · rw [if_neg e] at h ⊢
      rw [List.map_cons, List.map_cons]
      exact (List.Perm.swap _ _ _).trans (((ih h).cons _).trans (List.Perm.swap _ _ _))
end

section
variable {α : Type} [DecidableEq α]
abbrev W (α : Type) := List (α × α)
/-- one def's turn over its outer ones -/
def growL (rec : α → W α → List α → Bool × W α × List α) (x : α) : List α → W α → List α → Bool × W α × List α
  | [], w, t => (false, w, t)
  | o :: os, w, t =>
    if o ∈ t then growL rec x os w t else
    match look w o with
    | none => (true, put w o x, t ++ [o])
    | some m => match rec m w (t ++ [o]) with
      | (true, w2, t2) => (true, put w2 o x, t2)
      | (false, w2, t2) => growL rec x os w2 t2
def grow (out : α → List α) : Nat → α → W α → List α → Bool × W α × List α
  | 0, _, w, t => (false, w, t)
  | n + 1, x, w, t => growL (grow out n) x (out x) w t

/-- tried ones: unlike, of U -/
structure TI (U t : List α) : Prop where
  nd : t.Nodup
  sub : ∀ o ∈ t, o ∈ U
theorem TI.snoc {U t : List α} (h : TI U t) {o : α} (ho : o ∈ U) (hn : o ∉ t) : TI U (t ++ [o]) := by
  refine ⟨?_, fun z hz => ?_⟩
  · rw [List.nodup_append]
    refine ⟨h.nd, by simp, fun a ha b hb => ?_⟩
    have hb' : b = o := by simpa using hb
    rw [hb']
    exact fun z => hn (z ▸ ha)
  · rcases List.mem_append.mp hz with e | e
    · exact h.sub z e
    · have e' : z = o := by simpa using e
      rw [e']
      exact ho
theorem nodup_len : ∀ {t U : List α}, t.Nodup → (∀ o ∈ t, o ∈ U) → t.length ≤ U.length
  | [], _, _, _ => Nat.zero_le _
  | a :: t, U, h, s => by
    rw [List.nodup_cons] at h
    have ha : a ∈ U := s a List.mem_cons_self
    have q := nodup_len (t := t) (U := U.erase a) h.2 fun o ho => by
      have hne : o ≠ a := fun z => h.1 (z ▸ ho)
      exact (List.mem_erase_of_ne hne).mpr (s o (List.mem_cons_of_mem _ ho))
    rw [List.length_erase_of_mem ha] at q
    have : 0 < U.length := List.length_pos_of_mem ha
    simp
    omega
theorem TI.len {U t : List α} (h : TI U t) : t.length ≤ U.length := nodup_len h.nd h.sub

/-- closed: each of T has one right within it, and what that one goes in is of T -/
def Closed (out : α → List α) (w : W α) (T : List α) : Prop := ∀ o ∈ T, ∃ m, look w o = some m ∧ ∀ p ∈ out m, p ∈ T
/-- no way leads from x to a free one -/
def Dead (out : α → List α) (w : W α) (x : α) : Prop := ∃ T, Closed out w T ∧ ∀ o ∈ out x, o ∈ T

/-- a matching along edges, into U -/
structure MW (out : α → List α) (U : List α) (w : W α) : Prop where
  nd : (w.map (·.1)).Nodup
  ed : ∀ o m, look w o = some m → o ∈ out m
  ks : ∀ o ∈ w.map (·.1), o ∈ U

/-- what one call is worth: os are those looked at -/
structure Good (out : α → List α) (U : List α) (os : List α) (x : α) (w : W α) (t : List α) (r : Bool × W α × List α) : Prop where
  ti : TI U r.2.2
  mo : ∀ o ∈ t, o ∈ r.2.2
  no : r.1 = false → r.2.1 = w ∧ (∀ o ∈ os, o ∈ r.2.2) ∧ ∀ o ∈ r.2.2, o ∉ t → ∃ m, look w o = some m ∧ ∀ p ∈ out m, p ∈ r.2.2
  yes : r.1 = true → MW out U w → MW out U r.2.1 ∧ (r.2.1.map (·.2)).Perm (x :: w.map (·.2)) ∧ (∀ o ∈ t, look r.2.1 o = look w o) ∧ (∀ o ∈ w.map (·.1), o ∈ r.2.1.map (·.1))
  far : r.1 = true → ∀ T, Closed out w T → (∃ o ∈ os, o ∉ T) ∧ ∀ o ∈ T, look r.2.1 o = look w o

theorem mw_put {out : α → List α} {U : List α} {w : W α} (h : MW out U w) {o x : α} (ho : o ∈ out x) (hU : o ∈ U) : MW out U (put w o x) := by
  refine ⟨put_nodup h.nd o x, fun p m e => ?_, fun p hp => ?_⟩
  · rw [look_put] at e
    by_cases z : p = o
    · rw [if_pos z] at e
      cases e
      rw [z]
      exact ho
    · rw [if_neg z] at e
      exact h.ed p m e
  · rcases (put_keys_mem w o p x).mp hp with e | e
    · rw [e]
      exact hU
    · exact h.ks p e

theorem growL_good {out : α → List α} {U : List α} {n : Nat} {rec : α → W α → List α → Bool × W α × List α}
    (hU : ∀ m, ∀ o ∈ out m, o ∈ U)
    (ih : ∀ m w t, TI U t → U.length < n + t.length → Good out U (out m) m w t (rec m w t)) (x : α) :
    ∀ (os : List α) (w : W α) (t : List α), (∀ o ∈ os, o ∈ out x) → TI U t → U.length < n + 1 + t.length → Good out U os x w t (growL rec x os w t)
  | [], w, t, _, ht, _ => by
    exact ⟨ht, fun _ h => h, fun _ => ⟨rfl, (fun _ h => by cases h), fun o h h2 => absurd h h2⟩, fun h => Bool.noConfusion h, fun h => Bool.noConfusion h⟩
  | o :: os, w, t, hs, ht, hn => by
    have hso : ∀ p ∈ os, p ∈ out x := fun p hp => hs p (List.mem_cons_of_mem _ hp)
    have hox : o ∈ out x := hs o List.mem_cons_self
    have hoU : o ∈ U := hU x o hox
    by_cases ho : o ∈ t
    · have e : growL rec x (o :: os) w t = growL rec x os w t := by
        show (if o ∈ t then growL rec x os w t else _) = _
        rw [if_pos ho]
      rw [e]
      have g := growL_good hU ih x os w t hso ht hn
      refine ⟨g.ti, g.mo, fun h => ?_, g.yes, fun h T hT => ?_⟩
      · obtain ⟨a, b, c⟩ := g.no h
        refine ⟨a, fun p hp => ?_, c⟩
        rcases List.mem_cons.mp hp with z | z
        · rw [z]
          exact g.mo o ho
        · exact b p z
      · obtain ⟨⟨p, hp, hpT⟩, q⟩ := g.far h T hT
        exact ⟨⟨p, List.mem_cons_of_mem _ hp, hpT⟩, q⟩
    · have ht1 := ht.snoc hoU ho
      have hl : (t ++ [o]).length = t.length + 1 := by simp
      cases hw : look w o with
      | none =>
        have e : growL rec x (o :: os) w t = (true, put w o x, t ++ [o]) := by
          show (if o ∈ t then growL rec x os w t else _) = _
          rw [if_neg ho, hw]
        rw [e]
        refine ⟨ht1, fun p hp => List.mem_append_left _ hp, fun h => Bool.noConfusion h, fun _ hm => ?_, fun _ T hT => ?_⟩
        · refine ⟨mw_put hm hox hoU, put_vals_new x hw, fun p hp => ?_, fun p hp => (put_keys_mem w o p x).mpr (.inr hp)⟩
          exact look_put_ne w x fun z => ho (z ▸ hp)
        · have hoT : o ∉ T := fun z => by
            obtain ⟨m, hm, _⟩ := hT o z
            rw [hw] at hm
            cases hm
          exact ⟨⟨o, List.mem_cons_self, hoT⟩, fun p hp => look_put_ne w x fun z => hoT (z ▸ hp)⟩
      | some m =>
        have g := ih m w (t ++ [o]) ht1 (by rw [hl]; omega)
        have e : growL rec x (o :: os) w t = (match rec m w (t ++ [o]) with
          | (true, w2, t2) => (true, put w2 o x, t2)
          | (false, w2, t2) => growL rec x os w2 t2) := by
          show (if o ∈ t then growL rec x os w t else _) = _
          rw [if_neg ho, hw]
        rw [e]
        cases hr : rec m w (t ++ [o]) with
        | mk b r2 =>
        obtain ⟨w2, t2⟩ := r2
        rw [hr] at g
        have hmo : ∀ p ∈ t, p ∈ t2 := fun p hp => g.mo p (List.mem_append_left _ hp)
        have ho2 : o ∈ t2 := g.mo o (List.mem_append_right _ (by simp))
        cases b with
        | true =>
          show Good out U (o :: os) x w t (true, put w2 o x, t2)
          refine ⟨g.ti, hmo, fun h => Bool.noConfusion h, fun _ hm => ?_, fun _ T hT => ?_⟩
          · obtain ⟨y1, y2, y3, y4⟩ := g.yes rfl hm
            have h2o : look w2 o = some m := (y3 o (List.mem_append_right _ (by simp))).trans hw
            refine ⟨mw_put y1 hox hoU, ?_, fun p hp => ?_, fun p hp => (put_keys_mem w2 o p x).mpr (.inr (y4 p hp))⟩
            · have q1 := put_vals_old (w := w2) x h2o
              have q2 : (x :: w2.map (·.2)).Perm (x :: m :: w.map (·.2)) := y2.cons x
              exact List.Perm.cons_inv (q1.trans (q2.trans (List.Perm.swap _ _ _)))
            · show look (put w2 o x) p = look w p
              rw [look_put_ne w2 x (fun z : p = o => ho (z ▸ hp))]
              exact y3 p (List.mem_append_left _ hp)
          · obtain ⟨⟨p, hp, hpT⟩, q⟩ := g.far rfl T hT
            have hoT : o ∉ T := fun z => by
              obtain ⟨m', hm', hc⟩ := hT o z
              rw [hw] at hm'
              cases hm'
              exact hpT (hc p hp)
            refine ⟨⟨o, List.mem_cons_self, hoT⟩, fun p hp => ?_⟩
            show look (put w2 o x) p = look w p
            rw [look_put_ne w2 x (fun z : p = o => hoT (z ▸ hp))]
            exact q p hp
        | false =>
          show Good out U (o :: os) x w t (growL rec x os w2 t2)
          obtain ⟨n1, n2, n3⟩ := g.no rfl
          have n1' : w2 = w := n1
          subst n1'
          have hl2 : t.length + 1 ≤ t2.length := by
            rw [← hl]
            exact nodup_len ht1.nd g.mo
          have g2 := growL_good hU ih x os w2 t2 hso g.ti (by omega)
          refine ⟨g2.ti, fun p hp => g2.mo p (hmo p hp), fun h => ?_, fun h hm => ?_, fun h T hT => ?_⟩
          · obtain ⟨a, b, c⟩ := g2.no h
            refine ⟨a, fun p hp => ?_, fun p hp hpt => ?_⟩
            · rcases List.mem_cons.mp hp with z | z
              · rw [z]
                exact g2.mo o ho2
              · exact b p z
            · by_cases hp2 : p ∈ t2
              · by_cases hpo : p = o
                · refine ⟨m, by rw [hpo]; exact hw, fun q hq => g2.mo q (n2 q hq)⟩
                · obtain ⟨m1, e1, e2⟩ := n3 p hp2 (fun z => by
                    rcases List.mem_append.mp z with z | z
                    · exact hpt z
                    · exact hpo (by simpa using z))
                  exact ⟨m1, e1, fun q hq => g2.mo q (e2 q hq)⟩
              · exact c p hp hp2
          · obtain ⟨a, b, c, d⟩ := g2.yes h hm
            exact ⟨a, b, fun p hp => c p (hmo p hp), d⟩
          · obtain ⟨⟨p, hp, hpT⟩, q⟩ := g2.far h T hT
            exact ⟨⟨p, List.mem_cons_of_mem _ hp, hpT⟩, q⟩

theorem grow_good {out : α → List α} {U : List α} (hU : ∀ m, ∀ o ∈ out m, o ∈ U) :
    ∀ (n : Nat) (x : α) (w : W α) (t : List α), TI U t → U.length < n + t.length → Good out U (out x) x w t (grow out n x w t)
  | 0, x, w, t, ht, hn => by
    have := ht.len
    omega
  | n + 1, x, w, t, ht, hn => by
    show Good out U (out x) x w t (growL (grow out n) x (out x) w t)
    exact growL_good (n := n) hU (fun m w t h1 h2 => grow_good hU n m w t h1 h2) x (out x) w t (fun _ h => h) ht hn
end
end KM
end
section
set_option Elab.async false
set_option linter.all false
set_option maxRecDepth 100000
set_option maxHeartbeats 4000000
namespace BX
open PySem PySem.Spec PyProof.Rows L2
/-! ### heaps -/
/-- all that was tracked is as it was, but at S -/
def Chg (S : List Addr) (H H' : Hp) : Prop := ∀ b o, b ∉ S → H b = some o → H' b = some o
theorem Chg.refl {S : List Addr} {H : Hp} : Chg S H H := fun _ _ _ h => h
theorem Chg.trans {S : List Addr} {H H1 H2 : Hp} (a : Chg S H H1) (b : Chg S H1 H2) : Chg S H H2 := fun c o n h => b c o n (a c o n h)
theorem Chg.of {S : List Addr} {H H' : Hp} (a : Same H H') : Chg S H H' := fun b o _ h => a b o h
theorem Chg.mono {S T : List Addr} {H H' : Hp} (a : Chg S H H') (h : ∀ b ∈ S, b ∈ T) : Chg T H H' := fun b o n e => a b o (fun z => n (h b z)) e
theorem Chg.upd {S : List Addr} {H H' : Hp} {a : Addr} {o : HO} (c : Chg S H H') (h : a ∈ S) : Chg S H (upd H' a o) := fun b u n e => by
  rw [upd_ne (fun z => n (by rw [z]; exact h))]
  exact c b u n e
theorem Chg.new {S : List Addr} {H H' : Hp} {a : Addr} {o : HO} (c : Chg S H H') (h : H a = none) : Chg S H (L2.upd H' a o) := fun b u n e => by
  rw [upd_ne (ne_of_none e h)]
  exact c b u n e
theorem same_new {H : Hp} {p : Addr} (h : H p = none) (o : HO) : Same H (upd H p o) := fun b u q => by rw [upd_ne (ne_of_none q h)]; exact q
theorem Same.new {H H' : Hp} {a : Addr} {o : HO} (c : Same H H') (h : H a = none) : Same H (upd H' a o) := fun b u e => by
  rw [upd_ne (ne_of_none e h)]
  exact c b u e
theorem none_of_upd {H : Hp} {a b : Addr} {o : HO} (h : upd H a o b = none) : b ≠ a ∧ H b = none := by
  by_cases e : b = a
  · rw [e, upd_same] at h
    cases h
  · exact ⟨e, by rw [upd_ne e] at h; exact h⟩
theorem SqL.same {K : PySem.W.Frag} {H H' : Hp} {a : Addr} {xs : List V} (e : Same H H') (h : H a = some (.lst xs)) : H' a = some (.lst xs) := e _ _ h
/-! ### attributes -/
theorem lk_eq {x : Str} {v : V} {r : List (Str × V)} : List.lookup x ((x, v) :: r) = some v := by
  rw [List.lookup_cons]
  simp
theorem lk_ne {x y : Str} {v : V} {r : List (Str × V)} (h : ¬ x = y) : List.lookup x ((y, v) :: r) = List.lookup x r := by
  rw [List.lookup_cons]
  have : (x == y) = false := beq_eq_false_iff_ne.mpr h
  rw [this]
/-! ### dicts of texts -/
section
variable {β : Type} (g : β → V)
abbrev dmap (l : List (Str × β)) : List (Key × V) := l.map fun p => ((Sum.inr p.1 : Key), g p.2)
theorem valV_dmap (l : List (Str × β)) (k : Str) : valV (dmap g l) (Sum.inr k : Key) = (KM.look l k).map g := by
  induction l with
  | nil => rfl
  | cons p r ih =>
    unfold KM.look
    by_cases e : p.1 = k
    · rw [if_pos e]
      exact valV_pos (p := ((Sum.inr p.1 : Key), g p.2)) (congrArg Sum.inr e)
    · rw [if_neg e, ← ih]
      exact valV_neg (p := ((Sum.inr p.1 : Key), g p.2)) (fun z => e (Sum.inr.inj z))
theorem any_dmap (l : List (Str × β)) (k : Str) : ((dmap g l).any fun kv => decide (kv.1 = (Sum.inr k : Key))) = decide (k ∈ l.map (·.1)) := by
  induction l with
  | nil => rfl
  | cons p r ih =>
    show ((decide ((Sum.inr p.1 : Key) = Sum.inr k)) || ((dmap g r).any fun kv => decide (kv.1 = (Sum.inr k : Key)))) = _
    rw [ih, List.map_cons]
    by_cases e : p.1 = k
    · rw [decide_eq_true (congrArg Sum.inr e : (Sum.inr p.1 : Key) = Sum.inr k), Bool.true_or]
      exact (decide_eq_true (by rw [e]; exact List.mem_cons_self)).symm
    · rw [decide_eq_false (fun z : (Sum.inr p.1 : Key) = Sum.inr k => e (Sum.inr.inj z)), Bool.false_or, decide_eq_decide, List.mem_cons]
      exact ⟨.inr, fun z => z.resolve_left fun q => e q.symm⟩
theorem map_dmap_id {l : List (Str × β)} {k : Str} (h : k ∉ l.map (·.1)) (v : V) : ((dmap g l).map fun kv => if kv.1 = (Sum.inr k : Key) then (kv.1, v) else kv) = dmap g l := by
  induction l with
  | nil => rfl
  | cons p r ih =>
    rw [List.map_cons, List.mem_cons, not_or] at h
    show (if (Sum.inr p.1 : Key) = Sum.inr k then _ else _) :: _ = _
    rw [if_neg (fun z => h.1 (Sum.inr.inj z).symm), ih h.2]
    rfl
theorem putK_dmap {l : List (Str × β)} (hn : (l.map (·.1)).Nodup) (k : Str) (v : β) : putK (dmap g l) (Sum.inr k : Key) (g v) = dmap g (KM.put l k v) := by
  unfold putK
  rw [any_dmap]
  by_cases h : k ∈ l.map (·.1)
  · rw [if_pos (decide_eq_true h)]
    induction l with
    | nil => cases h
    | cons p r ih =>
      rw [List.map_cons, List.nodup_cons] at hn
      unfold KM.put
      by_cases e : p.1 = k
      · rw [if_pos e]
        show (if (Sum.inr p.1 : Key) = Sum.inr k then ((Sum.inr p.1 : Key), g v) else _) :: ((dmap g r).map fun kv => if kv.1 = (Sum.inr k : Key) then (kv.1, g v) else kv) = _
        rw [if_pos (congrArg Sum.inr e), map_dmap_id g (by rw [← e]; exact hn.1), e]
        rfl
      · rw [if_neg e]
        show (if (Sum.inr p.1 : Key) = Sum.inr k then _ else ((Sum.inr p.1 : Key), g p.2)) :: ((dmap g r).map fun kv => if kv.1 = (Sum.inr k : Key) then (kv.1, g v) else kv) = _
        rw [List.map_cons, List.mem_cons] at h
        rw [if_neg (fun z => e (Sum.inr.inj z)), ih hn.2 (h.resolve_left fun z => e z.symm)]
        rfl
  · rw [if_neg (by rw [decide_eq_false h]; exact Bool.false_ne_true), KM.put_new v h]
    show dmap g l ++ [((Sum.inr k : Key), g v)] = dmap g (l ++ [(k, v)])
    unfold dmap
    rw [List.map_append]
    rfl
end
/-! ### rows, sides, parcels -/
structure Row where
  name : Str
  a : Int
  b : Int
  c : Int
  wall : Int
  weight : Int
  bears : Int
  marks : List Str
def Row.lo (r : Row) : Int := min r.a (min r.b r.c)
def Row.hi (r : Row) : Int := max r.a (max r.b r.c)
def Row.mid (r : Row) : Int := r.a + r.b + r.c - r.lo - r.hi
def letters : Str := "abcdefghijklmnopqrstuvwxyz"
def allMarks : List Str := ["alone", "top", "upright"]
structure NameOk (x : Str) : Prop where
  l1 : 1 ≤ x.length
  l8 : x.length ≤ 8
  al : ∀ c ∈ x.cps.toList, c ∈ letters.cps.toList
def SideOk (i : Int) : Prop := 1 ≤ i ∧ i ≤ 100000
structure RowOk (r : Row) : Prop where
  nm : NameOk r.name
  sa : SideOk r.a
  sb : SideOk r.b
  sc : SideOk r.c
  wl : 1 ≤ r.wall ∧ r.wall ≤ 1000
  wt : 0 ≤ r.weight ∧ r.weight ≤ 100000
  br : 0 ≤ r.bears ∧ r.bears ≤ 100000
  ms : allMarks.filter (fun x => decide (x ∈ r.marks)) = r.marks
  mn : r.marks.Nodup
section
variable (K : PySem.W.Frag)
abbrev CS : Addr := He.ga K "Sides"
abbrev CP : Addr := He.ga K "Parcel"
abbrev CH : Addr := He.ga K "Heap"
def sfl (t : Addr) : List (Str × V) := [("three", .ref t)]
def pfl (r : Row) (s l : Addr) : List (Str × V) := [("called", .str r.name), ("outside", .ref s), ("thick", .int r.wall), ("heavy", .int r.weight), ("strong", .int r.bears), ("marks", .ref l)]
def hfl (l : Addr) : List (Str × V) := [("held", .ref l)]
/-- Sides stand at p -/
def SidesAt (H : Hp) (p : Addr) (x y z : Int) : Prop := ∃ dx t, H p = some (.ins (CS K) dx (sfl t)) ∧ H t = some (.tup [.int x, .int y, .int z])
/-- a parcel stands at p -/
def ParcelAt (H : Hp) (p : Addr) (r : Row) : Prop := ∃ dx s l, H p = some (.ins (CP K) dx (pfl r s l)) ∧ SidesAt K H s r.a r.b r.c ∧ H l = some (.lst (r.marks.map V.str))
/-- a heap stands at p, L its list -/
def HeapAt (H : Hp) (p L : Addr) (rs : List Row) : Prop := ∃ dx as, H p = some (.ins (CH K) dx (hfl L)) ∧ H L = some (.lst (as.map V.ref)) ∧ Paired (fun a r => ParcelAt K H a r) as rs
variable {K} {H H' : Hp}
theorem SidesAt.same {p : Addr} {x y z : Int} (e : Same H H') (h : SidesAt K H p x y z) : SidesAt K H' p x y z := by
  obtain ⟨dx, t, h1, h2⟩ := h
  exact ⟨dx, t, e _ _ h1, e _ _ h2⟩
theorem ParcelAt.same {p : Addr} {r : Row} (e : Same H H') (h : ParcelAt K H p r) : ParcelAt K H' p r := by
  obtain ⟨dx, s, l, h1, h2, h3⟩ := h
  exact ⟨dx, s, l, e _ _ h1, h2.same e, e _ _ h3⟩
theorem HeapAt.same {p L : Addr} {rs : List Row} (e : Same H H') (h : HeapAt K H p L rs) : HeapAt K H' p L rs := by
  obtain ⟨dx, as, h1, h2, h3⟩ := h
  exact ⟨dx, as, e _ _ h1, e _ _ h2, Paired.mapP h3 fun a r q => q.same e⟩
end
/-- the dict of lists at d -/
def OutAt (H : Hp) (d : Addr) (o : List (Str × List Str)) : Prop := ∃ kvs : List (Key × V), H d = some (.dK kvs) ∧ Paired (fun (kv : Key × V) (p : Str × List Str) => kv.1 = Sum.inr p.1 ∧ ∃ l, kv.2 = .ref l ∧ H l = some (.lst (p.2.map V.str))) kvs o
theorem OutAt.same {H H' : Hp} {d : Addr} {o : List (Str × List Str)} (e : Same H H') (h : OutAt H d o) : OutAt H' d o := by
  obtain ⟨kvs, h1, h2⟩ := h
  exact ⟨kvs, e _ _ h1, Paired.mapP h2 fun kv p ⟨q1, l, q2, q3⟩ => ⟨q1, l, q2, e _ _ q3⟩⟩
theorem paired_look {H : Hp} : ∀ {kvs : List (Key × V)} {o : List (Str × List Str)}, Paired (fun (kv : Key × V) (p : Str × List Str) => kv.1 = Sum.inr p.1 ∧ ∃ l, kv.2 = .ref l ∧ H l = some (.lst (p.2.map V.str))) kvs o →
    ∀ {x : Str} {ys : List Str}, KM.look o x = some ys → ∃ l, valV kvs (Sum.inr x : Key) = some (.ref l) ∧ H l = some (.lst (ys.map V.str))
  | _, _, .nil, x, ys, h => by cases h
  | kv :: kvs, p :: o, .cons r rs, x, ys, h => by
    obtain ⟨e1, l, e2, e3⟩ := r
    unfold KM.look at h
    by_cases e : p.1 = x
    · rw [if_pos e] at h
      cases h
      refine ⟨l, ?_, e3⟩
      rw [valV_pos (e1.trans (congrArg Sum.inr e)), e2]
    · rw [if_neg e] at h
      obtain ⟨l', q1, q2⟩ := paired_look rs h
      refine ⟨l', ?_, q2⟩
      rw [valV_neg (fun z => e (Sum.inr.inj (e1.symm.trans z)))]
      exact q1
theorem paired_keys {H : Hp} : ∀ {kvs : List (Key × V)} {o : List (Str × List Str)}, Paired (fun (kv : Key × V) (p : Str × List Str) => kv.1 = Sum.inr p.1 ∧ ∃ l, kv.2 = .ref l ∧ H l = some (.lst (p.2.map V.str))) kvs o →
    (kvs.map fun kv => kV kv.1) = o.map fun p => V.str p.1
  | _, _, .nil => rfl
  | kv :: kvs, p :: o, .cons r rs => by
    rw [List.map_cons, List.map_cons, paired_keys rs, r.1]
    rfl
theorem Paired.len {α β : Type} {F : α → β → Prop} {l : List α} {m : List β} (h : Paired F l m) : l.length = m.length := Paired.length h
theorem paired_at {α β : Type} {F : α → β → Prop} : ∀ {l : List α} {m : List β}, Paired F l m → ∀ {i : Nat} {b : β}, m[i]? = some b → ∃ a, l[i]? = some a ∧ F a b
  | _, _, .nil, i, b, h => by simp at h
  | _, _, .cons r _, 0, b, h => by
    simp at h
    subst h
    exact ⟨_, rfl, r⟩
  | _, _, .cons _ t, i + 1, b, h => by
    obtain ⟨a, h1, h2⟩ := paired_at t (i := i) (b := b) (by simpa using h)
    exact ⟨a, by simpa using h1, h2⟩
theorem paired_app {α β : Type} {F : α → β → Prop} : ∀ {l l' : List α} {m m' : List β}, Paired F l m → Paired F l' m' → Paired F (l ++ l') (m ++ m')
  | _, _, _, _, .nil, h => h
  | _, _, _, _, .cons r t, h => .cons r (paired_app t h)
theorem small (n : Nat) (h : n ≤ 1000000) : n ≤ sizeLine := Nat.le_trans h (by decide)
theorem smallt (n : Nat) (h : n < 1000000) : n < sizeLine := Nat.lt_of_lt_of_le h (by decide)
end BX
end
section
set_option Elab.async false
set_option linter.all false
set_option maxRecDepth 100000
set_option maxHeartbeats 4000000
namespace BX
open PySem PySem.Spec PyProof.Rows L2
/-! ### a written list, known not to stand at the modules' dict -/
def tLstN (t : TA) : TE := fun σ H Q => t σ H fun xs H1 => xs.length ≤ sizeLine ∧ ∀ p, H1 p = none → p ≠ sysModules → Q (.ref p) (upd H1 p (.lst xs))
theorem pe_lstN {X : Cx} {es : List Expr} {t : TA} {pos : Pos} (h : PA X es t) : PE X (.List es pos) (tLstN t) := by
  refine ⟨fun pins s σ H Q I hq => ?_⟩
  refine wpAny_List_spliced (thn (h.run pos pins s σ H _ I hq) fun us s1 ⟨xs, H1, I1, r, z, q⟩ => ⟨by rw [← r.length]; exact z, ?_⟩)
  have hf : H1 s1.heap.objs.size = none := I1.hok.fresh (Nat.le_refl _)
  refine ⟨.ref s1.heap.objs.size, upd H1 s1.heap.objs.size (.lst xs), I1.laid (t' := s1.toks) (fun b u e => Heap.get?_push_of_some _ e) (Nat.le_refl _) ?_, rfl, q _ hf (Nat.ne_of_gt I1.big)⟩
  exact ⟨z, us, 0, r, Heap.get?_push_size _ rfl⟩
/-! ### rules with K written -/
section
variable {X : Cx}
theorem op_inK (K : PySem.W.Frag) (h : X.K = K) : OpR X (compareOp .In) (rIn K false) := h ▸ op_in_seq
theorem op_notInK (K : PySem.W.Frag) (h : X.K = K) : OpR X (compareOp .NotIn) (rIn K true) := h ▸ op_notIn_seq
theorem pi_listK (K : PySem.W.Frag) (h : X.K = K) {tg l : Expr} {tl : TE} (hl : PE X l tl) : PI X tg l (iList K tl) := h ▸ pi_list hl
theorem sl_listK (K : PySem.W.Frag) (h : X.K = K) : SlR X (rSlL K) := h ▸ sl_list
theorem ix_listK (K : PySem.W.Frag) (h : X.K = K) : IxR X (rIxL K) := h ▸ ix_list
theorem ix_tupK (K : PySem.W.Frag) (h : X.K = K) : IxR X (rIxT K) := h ▸ ix_tup
theorem pg_tupK (K : PySem.W.Frag) (h : X.K = K) {pos : Pos} {es : List Expr} {k : Nat} {t : TGs} {n : Nat} (hc : X.calm = true) (ht : PGs X es t) (h1 : (assignEach es X.env).length = n := by rfl)
    (h2 : List.findIdx? (fun x => x.fst) (assignEach es X.env) = none := by rfl) : PG X (.Tuple es k pos) (gTup K n t) := h ▸ pg_tup hc ht h1 h2
theorem op_eqDK (K : PySem.W.Frag) (h : X.K = K) (hu : X.A.units + 64 < cLine) : OpR X (compareOp .Eq) (rEqD K) := h ▸ op_eqD hu
theorem op_neDK (K : PySem.W.Frag) (h : X.K = K) (hu : X.A.units + 64 < cLine) : OpR X (compareOp .NotEq) (rNeD K) := h ▸ op_neD hu
theorem isiK (K : PySem.W.Frag) (h : X.K = K) : CallR X (.builtin "isinstance") (rIsi K) := h ▸ call_isi
theorem sumK (K : PySem.W.Frag) (h : X.K = K) (hc : X.calm = true) : CallR X (.builtin "sum") (rSum K) := h ▸ cr_sum hc
end
/-! ### comprehensions whose turns leave what was there -/
section
variable {J : It} {G : Hp → Prop} {g : TG} {tt : TT} {te : TE} {vs : List Nat} {σ : L2.St} {H1 : Hp} {D : Addr} {Qd : Hp → Prop}
theorem lc_pure {α : Type} {l : List α} (e : α → V) (F : α → Option V) (w : Walk J l.length G (fun i H x H' => H' = H ∧ ∃ z, l[i]? = some z ∧ x = e z)) (hG : ∀ H, Same H1 H → G H) (hl : l.length ≤ 1000) (hD : H1 D = none)
    (turn : ∀ z H, z ∈ l → Same H1 H → ∀ (Qy : V → Hp → Prop) (Qn : Hp → Prop), (∀ y H4, F z = some y → Same H H4 → Qy y H4) → (∀ H3, F z = none → Same H H3 → Qn H3) →
      g (e z) (wipe σ vs) H fun σ2 H2 => wipe σ2 vs = wipe σ vs ∧ tt σ2 H2 fun b H3 => if b = true then te σ2 H3 Qy else Qn H3)
    (hd : ∀ H, Same H1 H → H D = some (.lst (l.filterMap F)) → Qd H) :
    ∃ W : Nat → Nat → Hp → Prop, (∃ m, W 0 m (upd H1 D (.lst []))) ∧ ∀ i m H, W i m H →
      (J.stop i H ∧ Qd H) ∨ (J.go i H ∧ ∃ Nx : Hp → Prop, (∀ H', Nx H' → ∃ m', m' < m ∧ W (i + 1) m' H') ∧ ∀ x H', J.yld i H x H' → g x (wipe σ vs) H' fun σ2 H2 => wipe σ2 vs = wipe σ vs ∧ tt σ2 H2 fun b H3 =>
        if b = true then te σ2 H3 fun y H4 => ∃ acc, H4 D = some (.lst acc) ∧ acc.length < sizeLine ∧ Nx (upd H4 D (.lst (acc ++ [y]))) else Nx H3) := by
  refine lc_it w (fun i H => Same H1 H ∧ H D = some (.lst ((l.take i).filterMap F))) ⟨same_new hD _, by rw [upd_same]; rfl⟩ (fun i H _ p => hG H p.1) ?_ (fun H p => hd H p.1 (by rw [p.2, List.take_length]))
  rintro i x H H' hi ⟨hs, hd'⟩ ⟨rfl, z, hz, rfl⟩
  have hm : z ∈ l := List.mem_of_getElem? hz
  have ht : l.take (i + 1) = l.take i ++ [z] := by rw [List.take_add_one, hz]; rfl
  have hL : ((l.take i).filterMap F).length < sizeLine := by
    have h1 := List.length_filterMap_le F (l.take i)
    have h2 : (l.take i).length ≤ l.length := by rw [List.length_take]; omega
    exact smallt _ (by omega)
  refine turn z H' hm hs _ _ (fun y H4 hF hs4 => ⟨_, hs4 _ _ hd', hL, (fun b u hb => ?_), ?_⟩) (fun H3 hF hs3 => ⟨fun b u hb => hs3 _ _ (hs _ _ hb), ?_⟩)
  · rw [upd_ne (ne_of_none hb hD)]
    exact hs4 _ _ (hs _ _ hb)
  · rw [upd_same, ht, List.filterMap_append, List.filterMap_cons, hF]
    rfl
  · rw [hs3 _ _ hd', ht, List.filterMap_append, List.filterMap_cons, hF]
    simp
/-- the same, no test -/
theorem lc_map {α : Type} {l : List α} (e : α → V) (F : α → V) (w : Walk J l.length G (fun i H x H' => H' = H ∧ ∃ z, l[i]? = some z ∧ x = e z)) (hG : ∀ H, Same H1 H → G H) (hl : l.length ≤ 1000) (hD : H1 D = none)
    (turn : ∀ z H, z ∈ l → Same H1 H → ∀ (Qy : V → Hp → Prop), (∀ H4, Same H H4 → Qy (F z) H4) →
      g (e z) (wipe σ vs) H fun σ2 H2 => wipe σ2 vs = wipe σ vs ∧ te σ2 H2 Qy)
    (mono : ∀ v σ H (Q Q' : L2.St → Hp → Prop), (∀ σ H, Q σ H → Q' σ H) → g v σ H Q → g v σ H Q')
    (hd : ∀ H, Same H1 H → H D = some (.lst (l.map F)) → Qd H) :
    ∃ W : Nat → Nat → Hp → Prop, (∃ m, W 0 m (upd H1 D (.lst []))) ∧ ∀ i m H, W i m H →
      (J.stop i H ∧ Qd H) ∨ (J.go i H ∧ ∃ Nx : Hp → Prop, (∀ H', Nx H' → ∃ m', m' < m ∧ W (i + 1) m' H') ∧ ∀ x H', J.yld i H x H' → g x (wipe σ vs) H' fun σ2 H2 => wipe σ2 vs = wipe σ vs ∧ tYes σ2 H2 fun b H3 =>
        if b = true then te σ2 H3 fun y H4 => ∃ acc, H4 D = some (.lst acc) ∧ acc.length < sizeLine ∧ Nx (upd H4 D (.lst (acc ++ [y]))) else Nx H3) := by
  refine lc_pure e (fun z => some (F z)) w hG hl hD (fun z H hz hs Qy Qn y n => mono _ _ _ _ _ (fun σ2 H2 p => p) (turn z H hz hs Qy fun H4 s4 => y _ _ rfl s4)) fun H hs h => hd H hs ?_
  rw [h, ← List.filterMap_eq_map]
  rfl
theorem gN {i : Nat} : ∀ (v : V) (σ : L2.St) (H : Hp) (Q Q' : L2.St → Hp → Prop), (∀ σ H, Q σ H → Q' σ H) → gName i v σ H Q → gName i v σ H Q' := fun _ _ _ _ _ h q => h _ _ q
/-- over a list -/
theorem wl {K : PySem.W.Frag} {a : Addr} {α : Type} (l : List α) (e : α → V) : Walk (Itl K a) l.length (fun H => SqL K H a (l.map e)) (fun i H x H' => H' = H ∧ ∃ z, l[i]? = some z ∧ x = e z) := by
  have w := walk_list (K := K) (a := a) (xs := l.map e)
  rw [List.length_map] at w
  refine w.mono (fun _ h => h) ?_
  rintro i H x H' hi _ ⟨h1, h2⟩
  rw [List.getElem?_map] at h2
  obtain ⟨z, hz, e⟩ := Option.map_eq_some_iff.mp h2
  exact ⟨h1, z, hz, e.symm⟩
theorem wt {K : PySem.W.Frag} {a : Addr} {α : Type} (l : List α) (e : α → V) : Walk (Itt K a) l.length (fun H => SqT K H a (l.map e)) (fun i H x H' => H' = H ∧ ∃ z, l[i]? = some z ∧ x = e z) := by
  have w := walk_tup (K := K) (a := a) (xs := l.map e)
  rw [List.length_map] at w
  refine w.mono (fun _ h => h) ?_
  rintro i H x H' hi _ ⟨h1, h2⟩
  rw [List.getElem?_map] at h2
  obtain ⟨z, hz, e⟩ := Option.map_eq_some_iff.mp h2
  exact ⟨h1, z, hz, e.symm⟩
theorem wr (n : Nat) : Walk (Itr 0 n) (List.range n).length (fun _ => True) (fun i H x H' => H' = H ∧ ∃ z, (List.range n)[i]? = some z ∧ x = (fun z : Nat => V.int (z : Int)) z) := by
  rw [List.length_range]
  refine (walk_range (lo := 0) (n := n)).mono (fun _ _ => trivial) ?_
  rintro i H x H' hi _ ⟨h1, h2⟩
  refine ⟨h1, i, by rw [List.getElem?_range hi], ?_⟩
  rw [h2]
  show V.int (0 + (i : Int)) = V.int (i : Int)
  rw [Int.zero_add]
theorem wk {d : Addr} {o : Obj} (kvs : List (Key × V)) : Walk (Itk d o kvs) kvs.length (fun H => H d = some (.frz o (.dK kvs))) (fun i H x H' => H' = H ∧ ∃ z, kvs[i]? = some z ∧ x = kV z.1) := by
  refine (walk_keys (d := d) (o := o) (kvs := kvs)).mono (fun _ h => h) ?_
  rintro i H x H' hi _ ⟨h1, k, v, h2, h3⟩
  exact ⟨h1, (k, v), h2, h3⟩
theorem wstr (z : Str) : Walk (Its z) z.cps.toList.length (fun _ => True) (fun i H x H' => H' = H ∧ ∃ c, z.cps.toList[i]? = some c ∧ x = (fun c => V.str ⟨#[c]⟩) c) := by
  have w := walk_str (z := z)
  have e : z.cps.toList.length = z.cps.size := by simp
  rw [e]
  refine w.mono (fun _ h => h) ?_
  rintro i H x H' hi _ ⟨h1, c, h2, h3⟩
  exact ⟨h1, c, by simpa using h2, h3⟩
end
/-- the slots are those of σ0, but at js -/
structure Sl (js : List Nat) (σ0 σ : L2.St) : Prop where
  len : σ.length = σ0.length
  at' : ∀ j, j ∉ js → σ[j]? = σ0[j]?
theorem Sl.refl {js : List Nat} {σ : L2.St} : Sl js σ σ := ⟨rfl, fun _ _ => rfl⟩
theorem Sl.set {js : List Nat} {σ0 σ : L2.St} {i : Nat} {v : Option V} (h : Sl js σ0 σ) (hi : i ∈ js) : Sl js σ0 (σ.set i v) := ⟨by rw [List.length_set]; exact h.len, fun j hj => by
  rw [List.getElem?_set_ne (fun z : i = j => hj (by rw [← z]; exact hi))]
  exact h.at' j hj⟩
theorem Sl.g {js : List Nat} {σ0 σ : L2.St} (h : Sl js σ0 σ) (j : Nat) (hj : j ∉ js) {x : Option V} (e : σ0[j]? = some x) : σ[j]? = some x := (h.at' j hj).trans e
theorem Sl.s {js : List Nat} {σ0 σ : L2.St} (h : Sl js σ0 σ) {i : Nat} {v : Option V} (hi : Nat.ble (i + 1) σ0.length = true := by rfl) : (σ.set i v)[i]? = some v := List.getElem?_set_self (by rw [h.len]; exact Nat.le_of_ble_eq_true hi)
theorem Sl.both {js : List Nat} {σ0 σ : L2.St} (h : Sl js σ0 σ) (i : Nat) (v : Option V) (hi : Nat.ble (i + 1) σ0.length = true := by rfl) : Sl js (σ0.set i v) (σ.set i v) := ⟨by rw [List.length_set, List.length_set, h.len], fun j hj => by
  by_cases e : i = j
  · subst e
    rw [List.getElem?_set_self (by rw [h.len]; exact Nat.le_of_ble_eq_true hi), List.getElem?_set_self (Nat.le_of_ble_eq_true hi)]
  · rw [List.getElem?_set_ne e, List.getElem?_set_ne e]
    exact h.at' j hj⟩
theorem wipe1 {σ : L2.St} {i : Nat} {x : Option V} : wipe ((wipe σ [i]).set i x) [i] = wipe σ [i] := by
  show ((σ.set i none).set i x).set i none = σ.set i none
  rw [List.set_set, List.set_set]
theorem Sl.w1 {js : List Nat} {σ0 σ : L2.St} {i : Nat} {x : Option V} (h : Sl js σ0 σ) (hi : i ∈ js) : Sl js σ0 ((wipe σ [i]).set i x) := (h.set (v := none) hi).set hi
theorem Sl.s1 {js : List Nat} {σ0 σ : L2.St} (h : Sl js σ0 σ) {i : Nat} {x : Option V} (hi : Nat.ble (i + 1) σ0.length = true := by rfl) : ((wipe σ [i]).set i x)[i]? = some x := by
  show ((σ.set i none).set i x)[i]? = some x
  rw [List.set_set]
  exact h.s hi
theorem sg {K : PySem.W.Frag} {H0 H : Hp} {a : Addr} {xs : List V} (h : H0 a = some (.lst xs)) : Same H0 H → SqL K H a xs := fun e => SqL.of (e _ _ h)
theorem ty_int {K : PySem.W.Frag} {H : Hp} (i : Int) : TyX K H (.int i) (.type "int") := .base (.int i)
theorem ty_str {K : PySem.W.Frag} {H : Hp} (i : Str) : TyX K H (.str i) (.type "str") := .base (.str i)
theorem ty_lst {K : PySem.W.Frag} {H : Hp} {a : Addr} {xs : List V} (h : H a = some (.lst xs)) : TyX K H (.ref a) (.type "list") := .base (.lst h)
theorem ty_tup {K : PySem.W.Frag} {H : Hp} {a : Addr} {xs : List V} (h : H a = some (.tup xs)) : TyX K H (.ref a) (.type "tuple") := .base (.tup h)
theorem ty_dK {K : PySem.W.Frag} {H : Hp} {a : Addr} {xs : List (Key × V)} (h : H a = some (.dK xs)) : TyX K H (.ref a) (.type "dict") := .base (.dK h)
theorem filterMap_id {α β : Type} (f : α → β) (l : List α) : l.filterMap (fun z => some (f z)) = l.map f := by rw [← List.filterMap_eq_map]; rfl
end BX
end
section
set_option Elab.async false
set_option linter.all false
set_option maxRecDepth 100000
set_option maxHeartbeats 4000000
namespace BX
open PySem PySem.Spec PyProof.Rows L2
open C8 (Cal Mak Met pe_c pe_mk pe_mt pe_mt0 pe_gc)
section
variable {P : Program} {w : World} {K : PySem.W.Frag} {mg : Str → Option Value} {base : Heap}
/-! ### words, sides, fits -/
def spWhole : Sp := SpG (G := Int × Int × Int) (fun g => [.int g.1, .int g.2.1, .int g.2.2]) (fun _ _ => True) (fun g H v H' => v = .bl (decide (g.2.1 ≤ g.1 ∧ g.1 ≤ g.2.2)) ∧ H' = H)
abbrev N_is_whole : List PySem.Str := ["thing", "low", "high"]
theorem sc_is_whole : FnScope N_is_whole ["thing", "low", "high"] d_is_whole.scope := ⟨rfl, rfl, rfl, by decide +kernel, rfl, by decide +kernel, by decide +kernel⟩
theorem c_is_whole (T : TX K mg) : Cal P w K mg base 1 "is_whole" spWhole [] := by
  refine calD T T.f_is_whole rfl T.g_is_whole (bindsN rfl fun _ _ _ _ _ _ us hl => match us, hl with | [_, _, _], _ => rfl) sc_is_whole (fun _ => rfl) fun cdv A outer s H Q E f g hr hp k => ?_
  obtain ⟨t, lo, hi⟩ := g
  refine ⟨_, (pss_one (ps_ret (pe_and (pe_callB (isiK K rfl) rfl T.n_isinstance b_isinstance (pa_cons (pv 0) (pa_cons (pe_bltn (v := .ty "int") rfl T.n_int b_int rfl) pa_nil))) (pe_and (pe_not (pe_callB (isiK K rfl) rfl T.n_isinstance b_isinstance (pa_cons (pv 0) (pa_cons (pe_bltn (v := .ty "bool") rfl T.n_bool b_bool rfl) pa_nil)))) (pe_one (pe_chain op_le op_le (pv 1) (pv 0) (pv 2))))))), ?_⟩
  refine ⟨_, rfl, _, _, _, _, true, rfl, .ty _, ty_int t, kit_ty (by decide +kernel), ?_⟩
  refine ⟨_, rfl, iteT ?_⟩
  refine ⟨_, rfl, _, _, _, _, false, rfl, .ty _, ty_int t, kit_ty (by decide +kernel), ?_⟩
  refine ⟨_, rfl, _, rfl, iteT ?_⟩
  refine ⟨_, rfl, _, rfl, _, _, rfl, rfl, _, rfl, ?_⟩
  refine ite2 (fun c => ?_) (fun c => ?_)
  · refine ⟨_, rfl, _, _, rfl, rfl, ?_⟩
    have c' : lo ≤ t := of_decide_eq_true c
    refine k _ _ ⟨?_, rfl⟩
    have e : decide (t ≤ hi) = decide (lo ≤ t ∧ t ≤ hi) := by
      rw [decide_eq_decide]
      exact ⟨fun h => ⟨c', h⟩, fun h => h.2⟩
    exact congrArg V.bl e
  · have c' : ¬ lo ≤ t := of_decide_eq_false (Bool.eq_false_iff.mpr c)
    refine k _ _ ⟨?_, rfl⟩
    exact congrArg V.bl (decide_eq_false (fun h => c' h.1)).symm
/-- what one reads off is_whole where it holds -/
theorem whole_ok {t lo hi : Int} {H : Hp} {v : V} {H' : Hp} (h : v = .bl (decide (lo ≤ t ∧ t ≤ hi)) ∧ H' = H) (a : lo ≤ t) (b : t ≤ hi) : v = .bl true ∧ H' = H := by
  refine ⟨h.1.trans ?_, h.2⟩
  rw [decide_eq_true (show lo ≤ t ∧ t ≤ hi from ⟨a, b⟩)]
def spName : Sp := SpG (G := Str) (fun x => [.str x]) (fun x _ => NameOk x) (fun _ H v H' => v = .bl true ∧ Same H H')
abbrev N_is_name : List PySem.Str := ["thing", "sign"]
theorem sc_is_name : FnScope N_is_name ["thing"] d_is_name.scope := ⟨rfl, rfl, rfl, by decide +kernel, rfl, by decide +kernel, by decide +kernel⟩
theorem c_is_name (T : TX K mg) : Cal P w K mg base 1 "is_name" spName [] := by
  refine calD T T.f_is_name rfl T.g_is_name (bindsN rfl fun _ _ _ _ _ _ us hl => match us, hl with | [_], _ => rfl) sc_is_name (fun _ => rfl) fun cdv A outer s H Q E f x hr hp k => ?_
  refine ⟨_, (pss_cons (ps_if (PW.pt (pw_or (pt_not (pt_val (pe_callB (isiK K rfl) rfl T.n_isinstance b_isinstance (pa_cons (pv 0) (pa_cons (pe_bltn (v := .ty "str") rfl T.n_str b_str rfl) pa_nil))))) (pw_or1 (pt_not (pt_chain op_le op_le pe_int (pe_callB (call_len_str) rfl T.n_len b_len (pa_cons (pv 0) pa_nil)) pe_int))))) (pss_one (ps_ret pe_bl)) pss_nil)
    (pss_one (ps_ret (pe_callB (cr_all rfl) rfl T.n_all b_all (pa_cons (pe_lc (own := [("sign", 1)]) rfl sc_is_name.nd (pi_str (pv 0)) (blkOk_by (own := [("sign", 1)]) (N := N_is_name) (sc := d_is_name.scope) (by decide +kernel)) (fun _ _ _ _ _ => (pg_name (i := 1) sc_is_name.nd rfl (Or.inl rfl))) (fun _ _ _ _ _ => pts_nil) (fun _ _ _ _ _ => (pe_cmpR (op_in_sign) (pv 1) (pe_gc rfl T.v_LETTERS) rfl))) pa_nil))))), ?_⟩
  refine ⟨_, rfl, _, _, _, _, true, rfl, .ty _, ty_str x, kit_ty (by decide +kernel), _, rfl, iteF ?_⟩
  refine ⟨_, rfl, x, rfl, small _ (Nat.le_trans hp.l8 (by decide)), _, _, rfl, rfl, true, congrArg V.bl (decide_eq_true (Int.ofNat_le.mpr hp.l1)), iteT ?_⟩
  refine ⟨_, _, rfl, rfl, true, congrArg V.bl (decide_eq_true (Int.ofNat_le.mpr hp.l8)), iteF ?_⟩
  refine ⟨_, rfl, x, rfl, fun D hD => ?_⟩
  refine lc_map (J := Its x) (l := x.cps.toList) (fun c => V.str ⟨#[c]⟩) (fun _ => V.bl true) (wstr x) (fun _ _ => trivial) ?_ hD ?_ gN ?_
  · have := hp.l8
    show x.cps.toList.length ≤ 1000
    rw [Array.length_toList]
    exact Nat.le_trans this (by decide)
  · intro c H' hc hs Qy y
    refine ⟨rfl, _, rfl, c, _, rfl, rfl, ?_⟩
    show Qy (V.bl (decide (c ∈ letters.cps.toList))) H'
    rw [decide_eq_true (hp.al c hc)]
    exact y _ fun _ _ h => h
  · intro H' hs hD'
    refine ⟨_, x.cps.toList.map fun _ => true, rfl, SqL.of (by rw [hD', List.map_map]; rfl), k _ _ ⟨?_, hs⟩⟩
    refine congrArg V.bl ?_
    rw [List.all_map]
    exact List.all_eq_true.mpr fun _ _ => rfl
def spSidesI : Sp := SpG (G := Addr × Addr × Int × Int × Int) (fun (p, _, a, b, c) => [.ref p, .int a, .int b, .int c]) (fun (p, dx, a, b, c) H => H p = some (.ins (CS K) dx []) ∧ SideOk a ∧ SideOk b ∧ SideOk c)
  (fun (p, _, a, b, c) H v H' => v = .non ∧ Chg [p] H H' ∧ SidesAt K H' p a b c)
abbrev N_Sides_init : List PySem.Str := ["self", "one", "other", "third", "side"]
theorem sc_Sides_init : FnScope N_Sides_init ["self", "one", "other", "third"] d_Sides_init.scope := ⟨rfl, rfl, rfl, by decide +kernel, rfl, by decide +kernel, by decide +kernel⟩
theorem c_Sides_init (T : TX K mg) : Mak P w K mg base 2 "Sides" (CS K) (spSidesI (K := K)) [] := by
  refine makD T T.f_Sides_init T.mk_Sides T.g_Sides (bindsN rfl fun _ _ _ _ _ _ us hl => match us, hl with | [_, _, _, _], _ => rfl) sc_Sides_init (fun _ => rfl) fun cdv A outer s H Q E f g hr hp k => ?_
  obtain ⟨p, dx, a, b, c⟩ := g
  obtain ⟨hp, ha, hb, hc⟩ := hp
  refine ⟨_, (pss_cons (ps_for PassesOwn.never rfl (pi_tup (pe_tup (pa_cons (pv 1) (pa_cons (pv 2) (pa_cons (pv 3) pa_nil))))) (pg_name (i := 4) sc_Sides_init.nd rfl (Or.inl rfl)) (pss_one (ps_if (pt_not (pt_val (pe_c (c_is_whole T) hr (by decide) rfl (pa_cons (pv 4) (pa_cons pe_int (pa_cons (pe_gc rfl T.v_MOST_SIDE) pa_nil)))))) (pss_one ps_never) pss_nil)))
    (pss_one (ps_fld (pv 0) (pe_tup (pa_cons (pv 1) (pa_cons (pv 2) (pa_cons (pv 3) pa_nil)))) rfl))), ?_⟩
  refine ⟨_, rfl, _, rfl, _, rfl, (small 3 (by decide)), fun t ht => ⟨t, rfl, ⟨_, SqT.of upd_same⟩, ?_⟩⟩
  have en : Same H (upd H t (.tup [.int a, .int b, .int c])) := same_new ht _
  refine for_tup (xs := [V.int a, .int b, .int c]) (fun _ σ H' => H' = upd H t (.tup [.int a, .int b, .int c]) ∧ σ[0]? = some (some (.ref p)) ∧ σ[1]? = some (some (.int a)) ∧ σ[2]? = some (some (.int b)) ∧ σ[3]? = some (some (.int c)) ∧ σ.length = 5)
    ⟨rfl, rfl, rfl, rfl, rfl, rfl⟩ (fun i σ H' _ h => h.1 ▸ SqT.of upd_same) ?_ ?_
  · intro i x σ H' hx ⟨h0, h1, h2, h3, h4, h5⟩
    have hi : ∃ j, x = V.int j ∧ SideOk j := by
      rcases i with _ | _ | _ | i
      · exact ⟨a, (Option.some.inj hx).symm, ha⟩
      · exact ⟨b, (Option.some.inj hx).symm, hb⟩
      · exact ⟨c, (Option.some.inj hx).symm, hc⟩
      · simp at hx
    obtain ⟨j, rfl, hj⟩ := hi
    refine ⟨_, List.getElem?_set_self (by omega), (j, 1, 100000), rfl, trivial, fun v H1 hw => ?_⟩
    obtain ⟨rfl, rfl⟩ := whole_ok hw hj.1 hj.2
    refine ⟨_, rfl, iteF ?_⟩
    exact ⟨h0, by rw [List.getElem?_set_ne (by decide)]; exact h1, by rw [List.getElem?_set_ne (by decide)]; exact h2, by rw [List.getElem?_set_ne (by decide)]; exact h3, by rw [List.getElem?_set_ne (by decide)]; exact h4, by rw [List.length_set]; exact h5⟩
  · rintro σ _ ⟨rfl, h1, h2, h3, h4, h5⟩
    refine ⟨_, h2, _, h3, _, h4, (small 3 (by decide)), fun t2 ht2 => ⟨_, h1, p, _, dx, [], rfl, ?_, T.cl_Sides, T.na_Sides_three, by decide, ?_⟩⟩
    · exact same_new ht2 _ _ _ (en _ _ hp)
    · refine k _ _ ⟨rfl, ?_, dx, t2, upd_same, ?_⟩
      · exact Chg.upd (Chg.of fun b u e => same_new ht2 _ _ _ (en _ _ e)) (List.mem_singleton_self p)
      · rw [upd_ne (ne_of_none (en _ _ hp) ht2).symm]
        exact upd_same
/-! ### more of sides -/
theorem inV_str (x : Str) (l : List Str) : inV (.str x) (l.map V.str) = decide (x ∈ l) := by
  unfold inV
  rw [List.any_map]
  rw [Bool.eq_iff_iff, List.any_eq_true, decide_eq_true_iff]
  constructor
  · rintro ⟨y, hy, e⟩
    have e' : y = x := by simpa [eqV] using e
    rw [← e']
    exact hy
  · exact fun h => ⟨x, h, by simp [eqV]⟩
theorem flat_strs (l : List Str) : (l.map V.str).all flatV = true := by
  rw [List.all_map, List.all_eq_true]
  exact fun _ _ => rfl
def spTold : Sp := SpG (G := Addr × Addr × Addr) (fun (p, _, _) => [.ref p]) (fun (p, dx, t) H => H p = some (.ins (CS K) dx (sfl t))) (fun (p, dx, t) H v H' => v = .ref t ∧ H' = H)
abbrev N_Sides_told : List PySem.Str := ["self"]
theorem sc_Sides_told : FnScope N_Sides_told ["self"] d_Sides_told.scope := ⟨rfl, rfl, rfl, by decide +kernel, rfl, by decide +kernel, by decide +kernel⟩
theorem c_Sides_told (T : TX K mg) : Met P w K mg base 1 (CS K) "told" (spTold (K := K)) [] := by
  refine metD T T.f_Sides_told T.cl_Sides T.me_Sides_told (bindsN rfl fun _ _ _ _ _ _ us hl => match us, hl with | [_], _ => rfl) sc_Sides_told (fun _ => rfl) fun cdv A outer s H Q E f g hr hp k => ?_
  obtain ⟨p, dx, t⟩ := g
  refine ⟨_, (pss_one (ps_ret (pe_fld (pv 0) rfl))), ?_⟩
  exact ⟨_, rfl, p, _, dx, _, _, rfl, hp, T.cl_Sides, T.na_Sides_three, rfl, k _ _ ⟨rfl, rfl⟩⟩
/-- the three, the greatest ahead -/
def ranked (a b c : Int) : List Int := [max a (max b c), a + b + c - min a (min b c) - max a (max b c), min a (min b c)]
theorem sorted3 {l : List Int} {a b c : Int} (h : l.Perm [a, b, c]) (s : l.Pairwise (· ≥ ·)) : l = ranked a b c := by
  have h1 := h.length_eq
  match l, h1 with
  | [x, y, z], _ =>
    have s1 : x ≥ y ∧ x ≥ z ∧ y ≥ z := by simpa [and_assoc] using s
    have m1 : x ∈ [a, b, c] := h.mem_iff.mp (by simp)
    have m2 : y ∈ [a, b, c] := h.mem_iff.mp (by simp)
    have m3 : z ∈ [a, b, c] := h.mem_iff.mp (by simp)
    have hsum : x + (y + (z + 0)) = a + (b + (c + 0)) := h.foldr_eq' (f := fun u v => u + v) (fun u _ v _ z => by omega) 0
    have n1 : a ∈ [x, y, z] := h.mem_iff.mpr (by simp)
    have n2 : b ∈ [x, y, z] := h.mem_iff.mpr (by simp)
    have n3 : c ∈ [x, y, z] := h.mem_iff.mpr (by simp)
    simp only [List.mem_cons, List.not_mem_nil, or_false] at m1 m2 m3 n1 n2 n3
    have e1 : x = max a (max b c) := by omega
    have e3 : z = min a (min b c) := by omega
    have e2 : y = a + b + c - min a (min b c) - max a (max b c) := by omega
    rw [e1, e2, e3]
    rfl
def spRanked : Sp := SpG (G := Addr × Int × Int × Int) (fun (p, _, _, _) => [.ref p]) (fun (p, a, b, c) H => SidesAt K H p a b c) (fun (p, a, b, c) H v H' => Same H H' ∧ ∃ q, v = .ref q ∧ H' q = some (.tup ((ranked a b c).map V.int)))
abbrev N_Sides_ranked : List PySem.Str := ["self"]
theorem sc_Sides_ranked : FnScope N_Sides_ranked ["self"] d_Sides_ranked.scope := ⟨rfl, rfl, rfl, by decide +kernel, rfl, by decide +kernel, by decide +kernel⟩
theorem c_Sides_ranked (T : TX K mg) : Met P w K mg base 1 (CS K) "ranked" (spRanked (K := K)) [] := by
  refine metD T T.f_Sides_ranked T.cl_Sides T.me_Sides_ranked (bindsN rfl fun _ _ _ _ _ _ us hl => match us, hl with | [_], _ => rfl) sc_Sides_ranked (fun _ => rfl) fun cdv A outer s H Q E f g hr hp k => ?_
  obtain ⟨p, a, b, c⟩ := g
  obtain ⟨dx, t, h1, h2⟩ := hp
  refine ⟨_, (pss_one (ps_ret (pe_callTy (call_tuple_of) rfl T.n_tuple b_tuple (pa_cons (pe_callBK (cr_sortedTupRev) rfl T.n_sorted b_sorted (pa_cons (pe_fld (pv 0) rfl) pa_nil) (pk_cons pe_bl pk_nil)) pa_nil)))), ?_⟩
  refine ⟨_, rfl, p, _, dx, _, _, rfl, h1, T.cl_Sides, T.na_Sides_three, rfl, t, [a, b, c], rfl, rfl, SqT.of h2, fun ns q hpm hs hq => ?_⟩
  refine ⟨q, _, rfl, .inl ⟨SqL.of upd_same, fun q2 hq2 => k _ _ ⟨fun x o e => same_new hq2 _ _ _ (same_new hq _ _ _ e), q2, rfl, ?_⟩⟩⟩
  rw [upd_same, sorted3 hpm hs]
def spSpare : Sp := SpG (G := Int) (fun i => [.int i]) (fun i _ => 0 ≤ i ∧ i ≤ 1000) (fun _ H v H' => v = .non ∧ H' = H)
abbrev N_need_spare : List PySem.Str := ["spare"]
theorem sc_need_spare : FnScope N_need_spare ["spare"] d_need_spare.scope := ⟨rfl, rfl, rfl, by decide +kernel, rfl, by decide +kernel, by decide +kernel⟩
theorem c_need_spare (T : TX K mg) : Cal P w K mg base 2 "need_spare" spSpare [] := by
  refine calD T T.f_need_spare rfl T.g_need_spare (bindsN rfl fun _ _ _ _ _ _ us hl => match us, hl with | [_], _ => rfl) sc_need_spare (fun _ => rfl) fun cdv A outer s H Q E f i hr hp k => ?_
  refine ⟨_, (pss_one (ps_if (pt_not (pt_val (pe_c (c_is_whole T) hr (by decide) rfl (pa_cons (pv 0) (pa_cons pe_int (pa_cons (pe_gc rfl T.v_MOST_SPARE) pa_nil)))))) (pss_one ps_never) pss_nil)), ?_⟩
  refine ⟨_, rfl, (i, 0, 1000), rfl, trivial, fun v H1 hw => ?_⟩
  obtain ⟨rfl, rfl⟩ := whole_ok hw hp.1 hp.2
  exact ⟨_, rfl, iteF (k _ _ ⟨rfl, rfl⟩)⟩
/-! ### labels, parcels -/
theorem marks_known {l : List Str} (h : allMarks.filter (fun x => decide (x ∈ l)) = l) : ∀ x ∈ l, x ∈ allMarks := fun x hx => by
  rw [← h] at hx
  exact (List.mem_filter.mp hx).1
theorem marks_few {l : List Str} (h : allMarks.filter (fun x => decide (x ∈ l)) = l) : l.length ≤ 3 := by
  rw [← h]
  exact List.length_filter_le _ _
def spLabels : Sp := SpG (G := Addr × List Str) (fun (l, _) => [.ref l]) (fun (l, m) H => H l = some (.lst (m.map V.str)) ∧ allMarks.filter (fun x => decide (x ∈ m)) = m ∧ m.Nodup) (fun _ H v H' => v = .bl true ∧ Same H H')
abbrev N_are_labels : List PySem.Str := ["thing", "word"]
theorem sc_are_labels : FnScope N_are_labels ["thing"] d_are_labels.scope := ⟨rfl, rfl, rfl, by decide +kernel, rfl, by decide +kernel, by decide +kernel⟩
theorem c_are_labels (T : TX K mg) : Cal P w K mg base 1 "are_labels" spLabels [] := by
  refine calD T T.f_are_labels rfl T.g_are_labels (bindsN rfl fun _ _ _ _ _ _ us hl => match us, hl with | [_], _ => rfl) sc_are_labels (fun _ => rfl) fun cdv A outer s H Q E f g hr hp k => ?_
  obtain ⟨l, m⟩ := g
  obtain ⟨hl, hm, hn⟩ := hp
  have h3 := marks_few hm
  refine ⟨_, (pss_cons (ps_if (pt_cmpR (op_isN) (pv 0) pe_non (nomark _)) (pss_one (ps_ret pe_bl)) pss_nil)
    (pss_cons (ps_if (PW.pt (pw_or (pt_not (pt_val (pe_callB (call_isiT) rfl T.n_isinstance b_isinstance (pa_cons (pv 0) (pa_cons (pe_tup (pa_cons (pe_bltn (v := .ty "list") rfl T.n_list b_list rfl) (pa_cons (pe_bltn (v := .ty "tuple") rfl T.n_tuple b_tuple rfl) pa_nil))) pa_nil))))) (pw_or1 (pt_cmpR (op_gt) (pe_callB (call_len_seq) rfl T.n_len b_len (pa_cons (pv 0) pa_nil)) (pe_callB (call_len_seq) rfl T.n_len b_len (pa_cons (pe_gc rfl T.v_LABELS) pa_nil)) (nomark _))))) (pss_one (ps_ret pe_bl)) pss_nil)
    (pss_cons (ps_if (pt_not (pt_val (pe_callB (cr_all rfl) rfl T.n_all b_all (pa_cons (pe_lc (own := [("word", 1)]) rfl sc_are_labels.nd (pi_listK K rfl (pv 0)) (blkOk_by (own := [("word", 1)]) (N := N_are_labels) (sc := d_are_labels.scope) (by decide +kernel)) (fun _ _ _ _ _ => (pg_name (i := 1) sc_are_labels.nd rfl (Or.inl rfl))) (fun _ _ _ _ _ => pts_nil) (fun _ _ _ _ _ => (pe_and (pe_callB (isiK K rfl) rfl T.n_isinstance b_isinstance (pa_cons (pv 1) (pa_cons (pe_bltn (v := .ty "str") rfl T.n_str b_str rfl) pa_nil))) (pe_one (pe_cmpR (op_inK K rfl) (pv 1) (pe_gc rfl T.v_LABELS) rfl))))) pa_nil)))) (pss_one (ps_ret pe_bl)) pss_nil)
    (pss_one (ps_ret (pe_cmpR (op_eq) (pe_lenSetS rfl rfl T.n_len rfl T.n_set (pv 0)) (pe_callB (call_len_seq) rfl T.n_len b_len (pa_cons (pv 0) pa_nil)) (nomark _))))))), ?_⟩
  refine ⟨_, rfl, rfl, _, rfl, iteF ?_⟩
  refine ⟨_, rfl, (small 2 (by decide)), fun t ht => ⟨_, t, _, _, _, true, rfl, upd_same, .cons (.ty _) (.cons (.ty _) .nil), ty_lst (same_new ht _ _ _ hl), ?_, _, rfl, iteF ?_⟩⟩
  · exact kitAny_cons (kit_ty (r := true) (by decide +kernel)) (fun z => Bool.noConfusion z) (fun _ => rfl)
  have en : Same H (upd H t (.tup [.ty "list", .ty "tuple"])) := same_new ht _
  generalize upd H t (.tup [.ty "list", .ty "tuple"]) = H2 at en
  have hl2 := en _ _ hl
  refine ⟨_, rfl, l, _, rfl, .inl (SqL.of hl2), _, _, rfl, .inr (T.labels H2), _, _, rfl, rfl, false, congrArg V.bl (decide_eq_false ?_), iteF ?_⟩
  · rw [List.length_map]
    show ¬ ((3 : Nat) : Int) < (m.length : Int)
    omega
  refine ⟨_, rfl, l, rfl, ⟨_, SqL.of hl2⟩, fun D hD => ?_⟩
  refine lc_map (J := Itl _ l) (l := m) V.str (fun _ => V.bl true) (wl m V.str) (fun _ e => sg hl2 e) (by omega) hD ?_ gN ?_
  · intro x H' hx hs Qy y
    refine ⟨rfl, ?_⟩
    refine ⟨_, rfl, _, _, _, _, true, rfl, .ty _, ty_str x, kit_ty (by decide +kernel), true, rfl, iteT ?_⟩
    refine ⟨_, rfl, _, _, rfl, .inr (T.labels H'), rfl, rfl, ?_⟩
    show Qy (.bl (inV (.str x) (allMarks.map V.str))) H'
    rw [inV_str, decide_eq_true (marks_known hm x hx)]
    exact y _ fun _ _ h => h
  intro H3 hs hD3
  refine ⟨D, m.map fun _ => true, rfl, SqL.of (by rw [hD3, List.map_map]; rfl), _, rfl, ?_⟩
  have e1 : ((m.map fun _ => true).all id) = true := by
    rw [List.all_map]
    exact List.all_eq_true.mpr fun _ _ => rfl
  rw [e1]
  refine iteF ?_
  have hl3 := hs _ _ hl2
  refine ⟨_, rfl, l, m, rfl, SqL.of hl3, by omega, hn, _, rfl, l, _, rfl, .inl (SqL.of hl3), rfl, k _ _ ⟨congrArg V.bl ?_, fun b o e => hs _ _ (en _ _ e)⟩⟩
  rw [List.length_map]
  exact decide_eq_true rfl
end
end BX
end
section
set_option Elab.async false
set_option linter.all false
set_option maxRecDepth 100000
set_option maxHeartbeats 4000000
namespace BX
open PySem PySem.Spec PyProof.Rows L2
open C8 (Cal Mak Met pe_c pe_mk pe_mt pe_mt0 pe_gc)
section
variable {P : Program} {w : World} {K : PySem.W.Frag} {mg : Str → Option Value} {base : Heap}
/-- what an own __init__ leaves, seen from ahead of the making -/
theorem made {H H2 : Hp} {x dx : Addr} {u v : HO} (hx : H x = none) (hd : H dx = none) (h : Chg [x] (upd (upd H dx u) x v) H2) : Same H H2 := fun b o e => by
  have n1 : b ≠ x := ne_of_none e hx
  refine h b o (fun z => n1 (List.mem_singleton.mp z)) ?_
  rw [upd_ne n1, upd_ne (ne_of_none e hd)]
  exact e
theorem mulS {i j : Int} (a : i.natAbs < 2 ^ 40) (b : j.natAbs < 2 ^ 40) : CMulW i j := wide_mul a b (by decide) (by decide) (by decide)
theorem paired_zip {α β : Type} {F : α → β → Prop} : ∀ {l : List α} {m : List β}, Paired F l m → ∀ {z : α × β}, z ∈ l.zip m → F z.1 z.2
  | _, _, .nil, z, h => by cases h
  | _, _, .cons r t, z, h => by
    rw [List.zip_cons_cons] at h
    rcases List.mem_cons.mp h with e | e
    · rw [e]
      exact r
    · exact paired_zip t e
theorem nlt (a b : Int) : nuLt (.int a) (.int b) = some (decide (a < b)) := rfl
theorem nmin2 (a b : Int) : nuMin2 (.int a) (.int b) = some (.int (min a b)) := by
  unfold nuMin2
  rw [nlt]
  by_cases h : b < a
  · rw [decide_eq_true h]
    show some (V.int b) = _
    rw [Int.min_eq_right (by omega)]
  · rw [decide_eq_false h]
    show some (V.int a) = _
    rw [Int.min_eq_left (by omega)]
theorem num3 (a b c : Int) : nuMin3 (.int a) (.int b) (.int c) = some (.int (min a (min b c))) := by
  unfold nuMin3
  rw [nmin2]
  show nuMin2 _ _ = _
  rw [nmin2, show min (min a b) c = min a (min b c) by omega]
def RoomAt (K : PySem.W.Frag) (H : Hp) (v : V) (a b c w : Int) : Prop := (min a (min b c) - 2 * w < 1 ∧ v = .non) ∨ (¬ min a (min b c) - 2 * w < 1 ∧ ∃ q, v = .ref q ∧ SidesAt K H q (a - 2 * w) (b - 2 * w) (c - 2 * w))
def spRoom : Sp := SpG (G := Addr × Int × Int × Int × Int) (fun (p, _, _, _, w) => [.ref p, .int w]) (fun (p, a, b, c, w) H => SidesAt K H p a b c ∧ SideOk a ∧ SideOk b ∧ SideOk c ∧ 1 ≤ w ∧ w ≤ 1000) (fun (p, a, b, c, w) H v H' => Same H H' ∧ RoomAt K H' v a b c w)
abbrev N_room_in : List PySem.Str := ["sides", "wall", "one", "other", "third", "side"]
theorem sc_room_in : FnScope N_room_in ["sides", "wall"] d_room_in.scope := ⟨rfl, rfl, rfl, by decide +kernel, rfl, by decide +kernel, by decide +kernel⟩
theorem c_room_in (T : TX K mg) : Cal P w K mg base 4 "room_in" (spRoom (K := K)) [] := by
  refine calD T T.f_room_in rfl T.g_room_in (bindsN rfl fun _ _ _ _ _ _ us hl => match us, hl with | [_, _], _ => rfl) sc_room_in (fun _ => rfl) fun cdv A outer s H Q E f g hr hp k => ?_
  obtain ⟨p, a, b, c, wl⟩ := g
  obtain ⟨⟨dx, t, hp1, hp2⟩, ha, hb, hc, hw1, hw2⟩ := hp
  obtain ⟨ha1, ha2⟩ := ha
  obtain ⟨hb1, hb2⟩ := hb
  obtain ⟨hc1, hc2⟩ := hc
  refine ⟨_, (pss_cons (ps_asg (pe_lc (own := [("side", 5)]) rfl sc_room_in.nd (pi_tup (pe_mt0 (c_Sides_told T) hr (by decide) (pv 0))) (blkOk_by (own := [("side", 5)]) (N := N_room_in) (sc := d_room_in.scope) (by decide +kernel)) (fun _ _ _ _ _ => (pg_name (i := 5) sc_room_in.nd rfl (Or.inl rfl))) (fun _ _ _ _ _ => pts_nil) (fun _ _ _ _ _ => (pe_op op_sub (pv 5) (pe_op op_mulW pe_int (pv 1))))) (pg_unl (n := 3) rfl (pgs_cons (pg_name (i := 2) sc_room_in.nd rfl (Or.inl rfl)) (pgs_cons (pg_name (i := 3) sc_room_in.nd rfl (Or.inl rfl)) (pgs_cons (pg_name (i := 4) sc_room_in.nd rfl (Or.inl rfl)) pgs_nil)))))
    (pss_cons (ps_if (pt_cmpR (op_lt) (pe_callB (call_min3Nu rfl) rfl T.n_min b_min (pa_cons (pv 2) (pa_cons (pv 3) (pa_cons (pv 4) pa_nil)))) pe_int (nomark _)) (pss_one (ps_ret pe_non)) pss_nil)
    (pss_one (ps_ret (pe_mk (c_Sides_init T) hr (by decide) rfl (pa_cons (pv 2) (pa_cons (pv 3) (pa_cons (pv 4) pa_nil)))))))), ?_⟩
  refine ⟨_, rfl, p, dx, _, rfl, hp1, rfl, (p, dx, t), rfl, hp1, fun v H1 hv => ?_⟩
  obtain ⟨rfl, rfl⟩ := hv
  refine ⟨t, rfl, ⟨_, SqT.of hp2⟩, fun D hD => ?_⟩
  refine lc_map (J := Itt _ t) (l := [a, b, c]) V.int (fun i => V.int (i - 2 * wl)) (wt [a, b, c] V.int) (fun _ e => SqT.of (e _ _ hp2)) (by show 3 ≤ 1000; decide) hD ?_ gN ?_
  · intro z H' hz hs Qy y
    refine ⟨rfl, ?_⟩
    exact ⟨_, rfl, _, rfl, _, _, rfl, rfl, mulS (by decide) (by omega), _, _, rfl, rfl, y _ fun _ _ h => h⟩
  intro H3 hs hD3
  refine ⟨D, _, rfl, SqL.of hD3, rfl, ?_⟩
  refine ⟨_, _, rfl, _, _, rfl, _, _, rfl, rfl, ?_⟩
  refine ⟨_, rfl, _, rfl, _, rfl, _, _, _, _, rfl, num3 _ _ _, _, _, rfl, rfl, _, rfl, ?_⟩
  have em : min (a - 2 * wl) (min (b - 2 * wl) (c - 2 * wl)) = min a (min b c) - 2 * wl := by omega
  rw [em]
  refine ite2 (fun h => ?_) (fun h => ?_)
  · exact k _ _ ⟨hs, .inl ⟨of_decide_eq_true h, rfl⟩⟩
  · have h' := of_decide_eq_false (Bool.eq_false_iff.mpr h)
    refine ⟨_, rfl, _, rfl, _, rfl, fun x dx hx hd hne => ⟨(x, dx, _, _, _), rfl, ⟨upd_same, ⟨?_, ?_⟩, ⟨?_, ?_⟩, ⟨?_, ?_⟩⟩, fun v H4 hv => ?_⟩⟩
    iterate 6 omega
    obtain ⟨rfl, ch, sa⟩ := hv
    exact ⟨rfl, k _ _ ⟨fun b o e => made hx hd ch _ _ (hs _ _ e), .inr ⟨h', x, rfl, sa⟩⟩⟩
/-! ### parcels -/
theorem fm_marks (m : List Str) : ∀ l : List Str, l.filterMap (fun x => if x ∈ m then some (V.str x) else none) = (l.filter (fun x => decide (x ∈ m))).map V.str
  | [] => rfl
  | x :: l => by
    rw [List.filterMap_cons, List.filter_cons, fm_marks m l]
    by_cases h : x ∈ m
    · rw [if_pos h, decide_eq_true h]
      rfl
    · rw [if_neg h, decide_eq_false h]
      rfl

/-- a parcel whose list of labels is new since H0 -/
def ParcelN (K : PySem.W.Frag) (H0 H : Hp) (p : Addr) (r : Row) : Prop := ∃ dx s l, H p = some (.ins (CP K) dx (pfl r s l)) ∧ SidesAt K H s r.a r.b r.c ∧ H l = some (.lst (r.marks.map V.str)) ∧ H0 l = none
theorem ParcelN.at' {H0 H : Hp} {p : Addr} {r : Row} (h : ParcelN K H0 H p r) : ParcelAt K H p r := by
  obtain ⟨dx, s, l, h1, h2, h3, _⟩ := h
  exact ⟨dx, s, l, h1, h2, h3⟩
def spPI : Sp := SpG (G := Addr × Addr × Row × Addr × Addr) (fun (p, _, r, s, l) => [.ref p, .str r.name, .ref s, .int r.wall, .int r.weight, .int r.bears, .ref l])
  (fun (p, dx, r, s, l) H => H p = some (.ins (CP K) dx []) ∧ SidesAt K H s r.a r.b r.c ∧ H l = some (.lst (r.marks.map V.str)) ∧ RowOk r) (fun (p, _, r, _, _) H v H' => v = .non ∧ Chg [p] H H' ∧ ParcelN K H H' p r)
abbrev N_Parcel_init : List PySem.Str := ["self", "name", "sides", "wall", "weight", "bears", "labels", "number", "word"]
theorem sc_Parcel_init : FnScope N_Parcel_init ["self", "name", "sides", "wall", "weight", "bears", "labels"] d_Parcel_init.scope := ⟨rfl, rfl, rfl, by decide +kernel, rfl, by decide +kernel, by decide +kernel⟩
theorem c_Parcel_init (T : TX K mg) : Mak P w K mg base 2 "Parcel" (CP K) (spPI (K := K)) [] := by
  refine makD T T.f_Parcel_init T.mk_Parcel T.g_Parcel (binds1 7 4 (List.cons_ne_nil _ _) rfl fun _ _ _ _ _ _ _ us its hl hi => match us, hl, its, hi with | [_, _, _, _, _, _, _], _, [_, _, _, _], _ => ⟨_, rfl, rfl⟩) sc_Parcel_init (fun _ => rfl) fun cdv A outer s0 H Q E f g hr hp k => ?_
  obtain ⟨p, dx, r, s, l⟩ := g
  obtain ⟨hp, hs, hl, ok⟩ := hp
  refine ⟨_, (pss_cons (ps_if (pt_not (pt_val (pe_c (c_is_name T) hr (by decide) rfl (pa_cons (pv 1) pa_nil)))) (pss_one ps_never) pss_nil)
    (pss_cons (ps_if (pt_not (pt_val (pe_callB (C8.call_isC T.is_Sides) rfl T.n_isinstance b_isinstance (pa_cons (pv 2) (pa_cons (pe_gc rfl T.v_Sides) pa_nil))))) (pss_one ps_never) pss_nil)
    (pss_cons (ps_if (pt_not (pt_val (pe_c (c_is_whole T) hr (by decide) rfl (pa_cons (pv 3) (pa_cons pe_int (pa_cons (pe_gc rfl T.v_MOST_WALL) pa_nil)))))) (pss_one ps_never) pss_nil)
    (pss_cons (ps_for PassesOwn.never rfl (pi_tup (pe_tup (pa_cons (pv 4) (pa_cons (pv 5) pa_nil)))) (pg_name (i := 7) sc_Parcel_init.nd rfl (Or.inl rfl)) (pss_one (ps_if (pt_not (pt_val (pe_c (c_is_whole T) hr (by decide) rfl (pa_cons (pv 7) (pa_cons pe_int (pa_cons (pe_gc rfl T.v_MOST_WEIGHT) pa_nil)))))) (pss_one ps_never) pss_nil)))
    (pss_cons (ps_if (pt_not (pt_val (pe_c (c_are_labels T) hr (by decide) rfl (pa_cons (pv 6) pa_nil)))) (pss_one ps_never) pss_nil)
    (pss_cons (ps_fld (pv 0) (pv 1) rfl)
    (pss_cons (ps_fld (pv 0) (pv 2) rfl)
    (pss_cons (ps_fld (pv 0) (pv 3) rfl)
    (pss_cons (ps_fld (pv 0) (pv 4) rfl)
    (pss_cons (ps_fld (pv 0) (pv 5) rfl)
    (pss_one (ps_fld (pv 0) (pe_lc (own := [("word", 8)]) rfl sc_Parcel_init.nd (pi_tup (pe_gc rfl T.v_LABELS)) (blkOk_by (own := [("word", 8)]) (N := N_Parcel_init) (sc := d_Parcel_init.scope) (by decide +kernel)) (fun _ _ _ _ _ => (pg_name (i := 8) sc_Parcel_init.nd rfl (Or.inl rfl))) (fun _ _ _ _ _ => (pts_one (PW.pt (pw_and (pt_cmpR (op_notN) (pv 6) pe_non (nomark _)) (pw_and1 (pt_cmpR (op_inK K rfl) (pv 8) (pv 6) rfl)))))) (fun _ _ _ _ _ => (pv 8))) rfl)))))))))))), ?_⟩
  refine ⟨_, rfl, r.name, rfl, ok.nm, fun v H1 hv => ?_⟩
  obtain ⟨rfl, e1⟩ := hv
  refine ⟨_, rfl, iteF ?_⟩
  obtain ⟨dxs, ts, hs1, hs2⟩ := hs.same e1
  refine ⟨_, rfl, s, dxs, _, rfl, hs1, _, rfl, iteF ?_⟩
  refine ⟨_, rfl, (r.wall, 1, 1000), rfl, trivial, fun v H2 hv => ?_⟩
  obtain ⟨rfl, rfl⟩ := whole_ok hv ok.wl.1 ok.wl.2
  refine ⟨_, rfl, iteF ?_⟩
  refine ⟨_, rfl, _, rfl, (small 2 (by decide)), fun t ht => ⟨t, rfl, ⟨_, SqT.of upd_same⟩, ?_⟩⟩
  have e2 : Same H (upd H2 t (.tup [.int r.weight, .int r.bears])) := fun b o e => same_new ht _ _ _ (e1 _ _ e)
  have ht0 : SqT K (upd H2 t (.tup [.int r.weight, .int r.bears])) t [.int r.weight, .int r.bears] := SqT.of upd_same
  generalize upd H2 t (.tup [.int r.weight, .int r.bears]) = H3 at e2 ht0
  refine for_tup (xs := [V.int r.weight, .int r.bears]) (fun _ σ H' => H' = H3 ∧ Sl [7, 8] (L2.start N_Parcel_init [V.ref p, .str r.name, .ref s, .int r.wall, .int r.weight, .int r.bears, .ref l]) σ) ⟨rfl, Sl.refl⟩ (fun i σ H' _ h => h.1 ▸ ht0) ?_ ?_
  · rintro i x σ H' hx ⟨rfl, h1⟩
    have hi : ∃ j, x = V.int j ∧ 0 ≤ j ∧ j ≤ 100000 := by
      rcases i with _ | _ | i
      · exact ⟨_, (Option.some.inj hx).symm, ok.wt⟩
      · exact ⟨_, (Option.some.inj hx).symm, ok.br⟩
      · simp at hx
    obtain ⟨j, rfl, hj⟩ := hi
    refine ⟨_, h1.s, (j, 0, 100000), rfl, trivial, fun v H1 hw => ?_⟩
    obtain ⟨rfl, rfl⟩ := whole_ok hw hj.1 hj.2
    exact ⟨_, rfl, iteF ⟨rfl, h1.set (by decide)⟩⟩
  · rintro σ _ ⟨rfl, h1⟩
    refine ⟨_, h1.g 6 (by decide) rfl, (l, r.marks), rfl, ⟨e2 _ _ hl, ok.ms, ok.mn⟩, fun v H4 hv => ?_⟩
    obtain ⟨rfl, e3⟩ := hv
    refine ⟨_, rfl, iteF ?_⟩
    have e4 : Same H H4 := fun b o e => e3 _ _ (e2 _ _ e)
    refine ⟨_, h1.g 1 (by decide) rfl, _, h1.g 0 (by decide) rfl, p, _, dx, [], rfl, e4 _ _ hp, T.cl_Parcel, T.na_Parcel_called, by decide, ?_⟩
    refine ⟨_, h1.g 2 (by decide) rfl, _, h1.g 0 (by decide) rfl, p, _, dx, _, rfl, upd_same, T.cl_Parcel, T.na_Parcel_outside, by show 1 < 1000; decide, ?_⟩
    refine ⟨_, h1.g 3 (by decide) rfl, _, h1.g 0 (by decide) rfl, p, _, dx, _, rfl, upd_same, T.cl_Parcel, T.na_Parcel_thick, by show 2 < 1000; decide, ?_⟩
    refine ⟨_, h1.g 4 (by decide) rfl, _, h1.g 0 (by decide) rfl, p, _, dx, _, rfl, upd_same, T.cl_Parcel, T.na_Parcel_heavy, by show 3 < 1000; decide, ?_⟩
    refine ⟨_, h1.g 5 (by decide) rfl, _, h1.g 0 (by decide) rfl, p, _, dx, _, rfl, upd_same, T.cl_Parcel, T.na_Parcel_strong, by show 4 < 1000; decide, ?_⟩
    rw [upd_upd, upd_upd, upd_upd, upd_upd]
    have ch : Chg [p] H (upd H4 p (HO.ins (CP K) dx (putF "strong" (.int r.bears) (putF "heavy" (.int r.weight) (putF "thick" (.int r.wall) (putF "outside" (.ref s) (putF "called" (.str r.name) []))))))) := Chg.upd (Chg.of e4) (List.mem_singleton_self p)
    have hpp : upd H4 p (HO.ins (CP K) dx (putF "strong" (.int r.bears) (putF "heavy" (.int r.weight) (putF "thick" (.int r.wall) (putF "outside" (.ref s) (putF "called" (.str r.name) [])))))) p = _ := upd_same
    generalize upd H4 p (HO.ins (CP K) dx (putF "strong" (.int r.bears) (putF "heavy" (.int r.weight) (putF "thick" (.int r.wall) (putF "outside" (.ref s) (putF "called" (.str r.name) [])))))) = H5 at ch hpp
    have nl : l ∉ [p] := fun z => by
      rw [List.mem_singleton.mp z, hp] at hl
      cases hl
    refine ⟨_, rfl, ⟨_, T.labels H5⟩, fun D hD => ?_⟩
    refine lc_pure (J := Itt _ (He.ga K "LABELS")) (l := allMarks) V.str (fun x => if x ∈ r.marks then some (V.str x) else none) (wt allMarks V.str) (fun _ e => T.labels _) (by decide) hD ?_ ?_
    · intro z H' hz hs' Qy Qn y n
      have h2 : Sl [7, 8] _ ((wipe σ [8]).set 8 (some (V.str z))) := h1.w1 (by decide)
      refine ⟨wipe1, _, h2.g 6 (by decide) rfl, rfl, _, rfl, iteT ?_⟩
      refine ⟨_, h1.s1, _, h2.g 6 (by decide) rfl, l, _, rfl, .inl (SqL.of (hs' _ _ (ch _ _ nl hl))), rfl, flat_strs _, _, rfl, ?_⟩
      rw [if_neg Bool.false_ne_true, inV_str]
      refine ite2 (fun c => ?_) (fun c => ?_)
      · have c' : z ∈ r.marks := of_decide_eq_true c
        exact ⟨_, h1.s1, y _ _ (if_pos c') fun _ _ h => h⟩
      · have c' : z ∉ r.marks := of_decide_eq_false (Bool.eq_false_iff.mpr c)
        exact n _ (if_neg c') fun _ _ h => h
    intro H6 hs6 hD6
    have hm : allMarks.filterMap (fun x => if x ∈ r.marks then some (V.str x) else none) = r.marks.map V.str := by
      rw [fm_marks, ok.ms]
    rw [hm] at hD6
    refine ⟨_, h1.g 0 (by decide) rfl, p, _, dx, _, rfl, hs6 _ _ hpp, T.cl_Parcel, T.na_Parcel_marks, by show 5 < 1000; decide, ?_⟩
    have ch7 : Chg [p] H (upd H6 p (HO.ins (CP K) dx (pfl r s D))) := Chg.upd (Chg.trans ch (Chg.of hs6)) (List.mem_singleton_self p)
    obtain ⟨dxs, ts, hs1, hs2⟩ := hs
    have n1 : s ∉ [p] := fun z => by
      rw [List.mem_singleton.mp z, hp] at hs1
      exact nomatch (HO.ins.inj (Option.some.inj hs1)).2.2
    have n2 : ts ∉ [p] := fun z => by
      rw [List.mem_singleton.mp z, hp] at hs2
      cases hs2
    refine k _ _ ⟨rfl, ch7, dx, s, D, upd_same, ⟨dxs, ts, ch7 _ _ n1 hs1, ch7 _ _ n2 hs2⟩, ?_, ?_⟩
    · rw [upd_ne (ne_of (hs6 _ _ hpp) hD6 (by intro z; cases z)).symm]
      exact hD6
    · cases z : H D with
      | none => rfl
      | some u =>
        exfalso
        by_cases e : D = p
        · rw [e, hpp] at hD
          cases hD
        · rw [ch D u (fun q => e (List.mem_singleton.mp q)) z] at hD
          cases hD
def spPn : Sp := SpG (G := Addr × Row) (fun (p, _) => [.ref p]) (fun (p, r) H => ParcelAt K H p r) (fun (p, r) H v H' => v = .str r.name ∧ H' = H)
abbrev N_Parcel_name : List PySem.Str := ["self"]
theorem sc_Parcel_name : FnScope N_Parcel_name ["self"] d_Parcel_name.scope := ⟨rfl, rfl, rfl, by decide +kernel, rfl, by decide +kernel, by decide +kernel⟩
theorem c_Parcel_name (T : TX K mg) : Met P w K mg base 1 (CP K) "name" (spPn (K := K)) [] := by
  refine metD T T.f_Parcel_name T.cl_Parcel T.me_Parcel_name (bindsN rfl fun _ _ _ _ _ _ us hl => match us, hl with | [_], _ => rfl) sc_Parcel_name (fun _ => rfl) fun cdv A outer s0 H Q E f g hr hp k => ?_
  obtain ⟨p, r⟩ := g
  obtain ⟨dx, s, l, h1, h2, h3⟩ := hp
  refine ⟨_, (pss_one (ps_ret (pe_fld (pv 0) rfl))), ?_⟩
  exact ⟨_, rfl, p, _, dx, _, _, rfl, h1, T.cl_Parcel, T.na_Parcel_called, rfl, k _ _ ⟨rfl, rfl⟩⟩
def spPs : Sp := SpG (G := Addr × Row) (fun (p, _) => [.ref p]) (fun (p, r) H => ParcelAt K H p r) (fun (p, r) H v H' => H' = H ∧ ∃ s, v = .ref s ∧ SidesAt K H s r.a r.b r.c)
abbrev N_Parcel_sides : List PySem.Str := ["self"]
theorem sc_Parcel_sides : FnScope N_Parcel_sides ["self"] d_Parcel_sides.scope := ⟨rfl, rfl, rfl, by decide +kernel, rfl, by decide +kernel, by decide +kernel⟩
theorem c_Parcel_sides (T : TX K mg) : Met P w K mg base 1 (CP K) "sides" (spPs (K := K)) [] := by
  refine metD T T.f_Parcel_sides T.cl_Parcel T.me_Parcel_sides (bindsN rfl fun _ _ _ _ _ _ us hl => match us, hl with | [_], _ => rfl) sc_Parcel_sides (fun _ => rfl) fun cdv A outer s0 H Q E f g hr hp k => ?_
  obtain ⟨p, r⟩ := g
  obtain ⟨dx, s, l, h1, h2, h3⟩ := hp
  refine ⟨_, (pss_one (ps_ret (pe_fld (pv 0) rfl))), ?_⟩
  exact ⟨_, rfl, p, _, dx, _, _, rfl, h1, T.cl_Parcel, T.na_Parcel_outside, rfl, k _ _ ⟨rfl, s, rfl, h2⟩⟩
def spPl : Sp := SpG (G := Addr × Row) (fun (p, _) => [.ref p]) (fun (p, r) H => ParcelAt K H p r) (fun (p, r) H v H' => Same H H' ∧ ∃ l, v = .ref l ∧ H' l = some (.lst (r.marks.map V.str)))
abbrev N_Parcel_labels : List PySem.Str := ["self"]
theorem sc_Parcel_labels : FnScope N_Parcel_labels ["self"] d_Parcel_labels.scope := ⟨rfl, rfl, rfl, by decide +kernel, rfl, by decide +kernel, by decide +kernel⟩
theorem c_Parcel_labels (T : TX K mg) : Met P w K mg base 1 (CP K) "labels" (spPl (K := K)) [] := by
  refine metD T T.f_Parcel_labels T.cl_Parcel T.me_Parcel_labels (bindsN rfl fun _ _ _ _ _ _ us hl => match us, hl with | [_], _ => rfl) sc_Parcel_labels (fun _ => rfl) fun cdv A outer s0 H Q E f g hr hp k => ?_
  obtain ⟨p, r⟩ := g
  obtain ⟨dx, s, l, h1, h2, h3⟩ := hp
  refine ⟨_, (pss_one (ps_ret (pe_callTy (call_list_of) rfl T.n_list b_list (pa_cons (pe_fld (pv 0) rfl) pa_nil)))), ?_⟩
  exact ⟨_, rfl, p, _, dx, _, _, rfl, h1, T.cl_Parcel, T.na_Parcel_marks, rfl, l, _, rfl, .inl (SqL.of h3), fun q hq => k _ _ ⟨same_new hq _, q, rfl, upd_same⟩⟩
def spPr : Sp := SpG (G := Addr × Row) (fun (p, _) => [.ref p]) (fun (p, r) H => ParcelAt K H p r ∧ RowOk r) (fun (p, r) H v H' => Same H H' ∧ RoomAt K H' v r.a r.b r.c r.wall)
abbrev N_Parcel_room : List PySem.Str := ["self"]
theorem sc_Parcel_room : FnScope N_Parcel_room ["self"] d_Parcel_room.scope := ⟨rfl, rfl, rfl, by decide +kernel, rfl, by decide +kernel, by decide +kernel⟩
theorem c_Parcel_room (T : TX K mg) : Met P w K mg base 5 (CP K) "room" (spPr (K := K)) [] := by
  refine metD T T.f_Parcel_room T.cl_Parcel T.me_Parcel_room (bindsN rfl fun _ _ _ _ _ _ us hl => match us, hl with | [_], _ => rfl) sc_Parcel_room (fun _ => rfl) fun cdv A outer s0 H Q E f g hr hp k => ?_
  obtain ⟨p, r⟩ := g
  obtain ⟨⟨dx, s, l, h1, h2, h3⟩, ok⟩ := hp
  refine ⟨_, (pss_one (ps_ret (pe_c (c_room_in T) hr (by decide) rfl (pa_cons (pe_fld (pv 0) rfl) (pa_cons (pe_fld (pv 0) rfl) pa_nil))))), ?_⟩
  refine ⟨_, rfl, p, _, dx, _, _, rfl, h1, T.cl_Parcel, T.na_Parcel_outside, rfl, _, rfl, p, _, dx, _, _, rfl, h1, T.cl_Parcel, T.na_Parcel_thick, rfl, ?_⟩
  exact ⟨(s, r.a, r.b, r.c, r.wall), rfl, ⟨h2, ok.sa, ok.sb, ok.sc, ok.wl.1, ok.wl.2⟩, fun v H' h => k _ _ h⟩
/-! ### heaps -/
/-- a heap at p, its list L of the parcels as -/
structure HeapR (K : PySem.W.Frag) (H : Hp) (p L : Addr) (as : List Addr) (rs : List Row) : Prop where
  ob : ∃ dx, H p = some (.ins (CH K) dx (hfl L))
  ls : H L = some (.lst (as.map V.ref))
  ps : Paired (fun a r => ParcelAt K H a r) as rs
theorem HeapR.same {H H' : Hp} {p L : Addr} {as : List Addr} {rs : List Row} (e : Same H H') (h : HeapR K H p L as rs) : HeapR K H' p L as rs := ⟨by
  obtain ⟨dx, q⟩ := h.ob
  exact ⟨dx, e _ _ q⟩, e _ _ h.ls, Paired.mapP h.ps fun a r q => q.same e⟩
theorem HeapR.len {H : Hp} {p L : Addr} {as : List Addr} {rs : List Row} (h : HeapR K H p L as rs) : as.length = rs.length := Paired.length h.ps
def spHI : Sp := SpG (G := Addr × Addr) (fun (p, _) => [.ref p]) (fun (p, dx) H => H p = some (.ins (CH K) dx [])) (fun (p, dx) H v H' => v = .non ∧ Chg [p] H H' ∧ ∃ L, H L = none ∧ HeapR K H' p L [] [])
abbrev N_Heap_init : List PySem.Str := ["self"]
theorem sc_Heap_init : FnScope N_Heap_init ["self"] d_Heap_init.scope := ⟨rfl, rfl, rfl, by decide +kernel, rfl, by decide +kernel, by decide +kernel⟩
theorem c_Heap_init (T : TX K mg) : Mak P w K mg base 1 "Heap" (CH K) (spHI (K := K)) [] := by
  refine makD T T.f_Heap_init T.mk_Heap T.g_Heap (bindsN rfl fun _ _ _ _ _ _ us hl => match us, hl with | [_], _ => rfl) sc_Heap_init (fun _ => rfl) fun cdv A outer s0 H Q E f g hr hp k => ?_
  obtain ⟨p, dx⟩ := g
  refine ⟨_, (pss_one (ps_fld (pv 0) (pe_lst pa_nil) rfl)), ?_⟩
  refine ⟨small 0 (by decide), fun L hL => ⟨_, rfl, p, _, dx, [], rfl, same_new hL _ _ _ hp, T.cl_Heap, T.na_Heap_held, by decide, ?_⟩⟩
  have n : L ≠ p := (ne_of_none hp hL).symm
  exact k _ _ ⟨rfl, Chg.upd (Chg.of (same_new hL _)) (List.mem_singleton_self p), L, hL, ⟨dx, upd_same⟩, by rw [upd_ne n, upd_same]; rfl, .nil⟩
def spHn : Sp := SpG (G := Addr × Addr × List Addr × List Row) (fun (p, _) => [.ref p]) (fun (p, L, as, rs) H => HeapR K H p L as rs ∧ rs.length ≤ 12) (fun (p, L, as, rs) H v H' => Same H H' ∧ ∃ l, v = .ref l ∧ H l = none ∧ H' l = some (.lst ((rs.map Row.name).map V.str)))
abbrev N_Heap_names : List PySem.Str := ["self", "parcel"]
theorem sc_Heap_names : FnScope N_Heap_names ["self"] d_Heap_names.scope := ⟨rfl, rfl, rfl, by decide +kernel, rfl, by decide +kernel, by decide +kernel⟩
theorem c_Heap_names (T : TX K mg) : Met P w K mg base 2 (CH K) "names" (spHn (K := K)) [] := by
  refine metD T T.f_Heap_names T.cl_Heap T.me_Heap_names (bindsN rfl fun _ _ _ _ _ _ us hl => match us, hl with | [_], _ => rfl) sc_Heap_names (fun _ => rfl) fun cdv A outer s0 H Q E f g hr hp k => ?_
  obtain ⟨p, L, as, rs⟩ := g
  obtain ⟨hh, h12⟩ := hp
  obtain ⟨dx, h1⟩ := hh.ob
  have hlen := hh.len
  refine ⟨_, (pss_one (ps_ret (pe_lc (own := [("parcel", 1)]) rfl sc_Heap_names.nd (pi_listK K rfl (pe_fld (pv 0) rfl)) (blkOk_by (own := [("parcel", 1)]) (N := N_Heap_names) (sc := d_Heap_names.scope) (by decide +kernel)) (fun _ _ _ _ _ => (pg_name (i := 1) sc_Heap_names.nd rfl (Or.inl rfl))) (fun _ _ _ _ _ => pts_nil) (fun _ _ _ _ _ => (pe_mt0 (c_Parcel_name T) hr (by decide) (pv 1)))))), ?_⟩
  refine ⟨_, rfl, p, _, dx, _, _, rfl, h1, T.cl_Heap, T.na_Heap_held, rfl, L, rfl, ⟨_, SqL.of hh.ls⟩, fun D hD => ?_⟩
  have hz : (as.zip rs).map (fun z => z.1) = as := by
    rw [List.map_fst_zip]
    exact Nat.le_of_eq hlen
  have hw : as.map V.ref = (as.zip rs).map fun z => V.ref z.1 := by
    conv => lhs; rw [← hz]
    rw [List.map_map]
    rfl
  refine lc_map (J := Itl _ L) (l := as.zip rs) (fun z => V.ref z.1) (fun z => V.str z.2.name) (wl (as.zip rs) fun z => V.ref z.1) (fun _ e => by rw [← hw]; exact sg hh.ls e) (by rw [List.length_zip]; omega) hD ?_ gN ?_
  · rintro ⟨a, r⟩ H' hz hs Qy y
    obtain ⟨dxp, s, l, q1, q2, q3⟩ := (paired_zip hh.ps hz).same hs
    refine ⟨wipe1, _, rfl, a, dxp, _, rfl, q1, rfl, (a, r), rfl, ⟨dxp, s, l, q1, q2, q3⟩, fun v H4 hv => ?_⟩
    obtain ⟨rfl, rfl⟩ := hv
    exact y _ fun _ _ h => h
  · intro H' hs hD'
    refine k _ _ ⟨hs, D, rfl, hD, ?_⟩
    rw [hD']
    refine congrArg (some ∘ HO.lst) ?_
    rw [List.map_map]
    have : rs = (as.zip rs).map (fun z => z.2) := by
      rw [List.map_snd_zip]
      exact Nat.le_of_eq hlen.symm
    conv => rhs; rw [this]
    rw [List.map_map]
    rfl
def spHp : Sp := SpG (G := Addr × Addr × List Addr × List Row) (fun (p, _) => [.ref p]) (fun (p, L, as, rs) H => HeapR K H p L as rs) (fun (p, L, as, rs) H v H' => Same H H' ∧ ∃ l, v = .ref l ∧ H l = none ∧ H' l = some (.lst (as.map V.ref)))
abbrev N_Heap_parcels : List PySem.Str := ["self"]
theorem sc_Heap_parcels : FnScope N_Heap_parcels ["self"] d_Heap_parcels.scope := ⟨rfl, rfl, rfl, by decide +kernel, rfl, by decide +kernel, by decide +kernel⟩
theorem c_Heap_parcels (T : TX K mg) : Met P w K mg base 1 (CH K) "parcels" (spHp (K := K)) [] := by
  refine metD T T.f_Heap_parcels T.cl_Heap T.me_Heap_parcels (bindsN rfl fun _ _ _ _ _ _ us hl => match us, hl with | [_], _ => rfl) sc_Heap_parcels (fun _ => rfl) fun cdv A outer s0 H Q E f g hr hp k => ?_
  obtain ⟨p, L, as, rs⟩ := g
  obtain ⟨dx, h1⟩ := hp.ob
  refine ⟨_, (pss_one (ps_ret (pe_callTy (call_list_of) rfl T.n_list b_list (pa_cons (pe_fld (pv 0) rfl) pa_nil)))), ?_⟩
  exact ⟨_, rfl, p, _, dx, _, _, rfl, h1, T.cl_Heap, T.na_Heap_held, rfl, L, _, rfl, .inl (SqL.of hp.ls), fun q hq => k _ _ ⟨same_new hq _, q, rfl, hq, upd_same⟩⟩
def spHl : Sp := SpG (G := Addr × Addr × List Addr × List Row) (fun (p, _) => [.ref p]) (fun (p, L, as, rs) H => HeapR K H p L as rs) (fun (p, L, as, rs) H v H' => v = .int (rs.length : Nat) ∧ H' = H)
abbrev N_Heap_len : List PySem.Str := ["self"]
theorem sc_Heap_len : FnScope N_Heap_len ["self"] d_Heap_len.scope := ⟨rfl, rfl, rfl, by decide +kernel, rfl, by decide +kernel, by decide +kernel⟩
theorem c_Heap_len (T : TX K mg) : Met P w K mg base 1 (CH K) "__len__" (spHl (K := K)) [] := by
  refine metD T T.f_Heap_len T.cl_Heap T.me_Heap_len (bindsN rfl fun _ _ _ _ _ _ us hl => match us, hl with | [_], _ => rfl) sc_Heap_len (fun _ => rfl) fun cdv A outer s0 H Q E f g hr hp k => ?_
  obtain ⟨p, L, as, rs⟩ := g
  obtain ⟨dx, h1⟩ := hp.ob
  refine ⟨_, (pss_one (ps_ret (pe_callB (call_len_seq) rfl T.n_len b_len (pa_cons (pe_fld (pv 0) rfl) pa_nil)))), ?_⟩
  refine ⟨_, rfl, p, _, dx, _, _, rfl, h1, T.cl_Heap, T.na_Heap_held, rfl, L, _, rfl, .inl (SqL.of hp.ls), k _ _ ⟨?_, rfl⟩⟩
  rw [List.length_map, hp.len]
end
end BX
end
section
set_option Elab.async false
set_option linter.all false
set_option maxRecDepth 100000
set_option maxHeartbeats 4000000
namespace BX
open PySem PySem.Spec PyProof.Rows L2
open C8 (Cal Mak Met pe_c pe_mk pe_mt pe_mt0 pe_gc)
section
variable {P : Program} {w : World} {K : PySem.W.Frag} {mg : Str → Option Value} {base : Heap}
/-! ### places in a heap -/
structure PlaceAt (rs : List Row) (x : Str) (i : Nat) : Prop where
  nd : (rs.map Row.name).Nodup
  at' : (rs.map Row.name)[i]? = some x
theorem PlaceAt.lt {rs : List Row} {x : Str} {i : Nat} (h : PlaceAt rs x i) : i < rs.length := by
  have := (List.getElem?_eq_some_iff.mp h.at').1
  rwa [List.length_map] at this
theorem nodup_at {α : Type} {l : List α} (h : l.Nodup) {i j : Nat} {x : α} (hi : l[i]? = some x) (hj : l[j]? = some x) : i = j :=
  (List.getElem?_inj (List.getElem?_eq_some_iff.mp hi).1 h).mp (hi.trans hj.symm)
theorem erase_map {α β : Type} (f : α → β) : ∀ (l : List α) (i : Nat), (l.map f).eraseIdx i = (l.eraseIdx i).map f
  | [], _ => rfl
  | _ :: _, 0 => rfl
  | x :: l, i + 1 => congrArg (f x :: ·) (erase_map f l i)
def spPo : Sp := SpG (G := Addr × Addr × List Addr × List Row × Str × Nat) (fun (p, _, _, _, x, _) => [.ref p, .str x]) (fun (p, L, as, rs, x, i) H => HeapR K H p L as rs ∧ PlaceAt rs x i) (fun (p, L, as, rs, x, i) H v H' => Same H H' ∧ v = .int (i : Nat))
abbrev N_Heap_place_of : List PySem.Str := ["self", "name", "place", "parcel"]
theorem sc_Heap_place_of : FnScope N_Heap_place_of ["self", "name"] d_Heap_place_of.scope := ⟨rfl, rfl, rfl, by decide +kernel, rfl, by decide +kernel, by decide +kernel⟩
theorem c_Heap_place_of (T : TX K mg) : Met P w K mg base 2 (CH K) "place_of" (spPo (K := K)) [] := by
  refine metD T T.f_Heap_place_of T.cl_Heap T.me_Heap_place_of (bindsN rfl fun _ _ _ _ _ _ us hl => match us, hl with | [_, _], _ => rfl) sc_Heap_place_of (fun _ => rfl) fun cdv A outer s0 H Q E f g hr hp k => ?_
  obtain ⟨p, L, as, rs, x, i⟩ := g
  obtain ⟨hh, pl⟩ := hp
  obtain ⟨dx, h1⟩ := hh.ob
  refine ⟨_, (pss_cons (ps_for PassesOwn.never rfl (pi_enum rfl T.n_enumerate (pa_cons (pe_fld (pv 0) rfl) pa_nil)) (pg_tupK (n := 2) K rfl rfl (pgs_cons (pg_name (i := 2) sc_Heap_place_of.nd rfl (Or.inl rfl)) (pgs_cons (pg_name (i := 3) sc_Heap_place_of.nd rfl (Or.inl rfl)) pgs_nil))) (pss_one (ps_if (PW.pt (pw_and (pt_val (pe_callB (isiK K rfl) rfl T.n_isinstance b_isinstance (pa_cons (pv 1) (pa_cons (pe_bltn (v := .ty "str") rfl T.n_str b_str rfl) pa_nil)))) (pw_and1 (pt_cmpR (op_eq) (pe_mt0 (c_Parcel_name T) hr (by decide) (pv 3)) (pv 1) (nomark _))))) (pss_one (ps_ret (pv 2))) pss_nil)))
    (pss_one ps_never)), ?_⟩
  refine ⟨_, rfl, p, _, dx, _, _, rfl, h1, T.cl_Heap, T.na_Heap_held, rfl, L, _, rfl, SqL.of hh.ls, ?_⟩
  refine for_it (walk_enum (K := K) (a := L) (xs := as.map V.ref)) (fun j σ H' => Same H H' ∧ Sl [2, 3] (L2.start N_Heap_place_of [V.ref p, .str x]) σ ∧ j ≤ i) ⟨fun _ _ h => h, Sl.refl, Nat.zero_le _⟩ (fun j σ H' _ h => sg hh.ls h.1) ?_ ?_
  · rintro j v σ H1 H2 hj ⟨hs, hσ, hji⟩ ⟨U, a, b, rfl, hU, rfl, ha, hb⟩
    obtain rfl := (Option.some.inj ha).symm
    have eU : Same H1 (upd H1 U (.tup [.int (j : Nat), b])) := same_new hU _
    have hs2 : Same H (upd H1 U (.tup [.int (j : Nat), b])) := fun c o e => eU _ _ (hs _ _ e)
    have hT : SqT K (upd H1 U (.tup [.int (j : Nat), b])) U [.int (j : Nat), b] := SqT.of upd_same
    generalize upd H1 U (.tup [.int (j : Nat), b]) = H3 at hs2 hT
    refine ⟨U, _, rfl, hT, rfl, _, _, rfl, _, _, rfl, rfl, ?_⟩
    have hσ2 : Sl [2, 3] (L2.start N_Heap_place_of [V.ref p, .str x]) ((σ.set 2 (some (.int (j : Nat)))).set 3 (some b)) := (hσ.set (by decide)).set (by decide)
    have hσ3 : ((σ.set 2 (some (.int (j : Nat)))).set 3 (some b))[3]? = some (some b) := (hσ.set (by decide)).s
    have hσ4 : ((σ.set 2 (some (.int (j : Nat)))).set 3 (some b))[2]? = some (some (.int (j : Nat))) := by
      rw [List.getElem?_set_ne (by decide)]
      exact hσ.s
    generalize (σ.set 2 (some (.int (j : Nat)))).set 3 (some b) = σ' at hσ2 hσ3 hσ4
    refine ⟨_, hσ2.g 1 (by decide) rfl, _, _, _, _, true, rfl, .ty _, ty_str x, kit_ty (by decide +kernel), true, rfl, iteT ?_⟩
    have hb : (as.map V.ref)[j]? = some b := hb
    rw [List.getElem?_map] at hb
    obtain ⟨a, ha, rfl⟩ := Option.map_eq_some_iff.mp hb
    have hjr : j < rs.length := by
      rw [← hh.len]
      exact (List.getElem?_eq_some_iff.mp ha).1
    obtain ⟨a', ha', q⟩ := paired_at hh.ps (List.getElem?_eq_getElem hjr)
    rw [ha] at ha'
    obtain rfl := Option.some.inj ha'
    obtain ⟨dxp, s, l, q1, q2, q3⟩ := q.same hs2
    refine ⟨_, hσ3, a, dxp, _, rfl, q1, rfl, (a, rs[j]), rfl, ⟨dxp, s, l, q1, q2, q3⟩, fun v H4 hv => ?_⟩
    obtain ⟨rfl, rfl⟩ := hv
    refine ⟨_, hσ2.g 1 (by decide) rfl, rfl, _, rfl, ?_⟩
    have hn : (rs.map Row.name)[j]? = some rs[j].name := by
      rw [List.getElem?_map, List.getElem?_eq_getElem hjr]
      rfl
    refine ite2 (fun c => ?_) (fun c => ?_)
    · have c' : rs[j].name = x := V.str.inj (of_decide_eq_true c)
      have e : j = i := by
        exact nodup_at pl.nd (by rw [hn, c']) pl.at'
      subst e
      exact ⟨_, hσ4, k _ _ ⟨hs2, rfl⟩⟩
    · have c' : ¬ V.str rs[j].name = V.str x := of_decide_eq_false (Bool.eq_false_iff.mpr c)
      have e : j ≠ i := fun z => by
        subst z
        exact c' (congrArg V.str (Option.some.inj (hn.symm.trans pl.at')))
      exact ⟨hs2, hσ2, by omega⟩
  · rintro σ H' ⟨hs, hσ, hji⟩
    have := pl.lt
    rw [List.length_map, hh.len] at hji
    omega
/-- how the place of a new one is told -/
def Ahead (rs : List Row) (av : V) (i : Nat) : Prop := (av = .non ∧ i = rs.length) ∨ ∃ x, av = .str x ∧ PlaceAt rs x i
def spHput : Sp := SpG (G := Addr × Addr × List Addr × List Row × Addr × Row × V × Nat) (fun (p, _, _, _, q, _, av, _) => [.ref p, .ref q, av]) (fun (p, L, as, rs, q, r, av, i) H => HeapR K H p L as rs ∧ ParcelAt K H q r ∧ r.name ∉ rs.map Row.name ∧ rs.length < 12 ∧ Ahead rs av i)
  (fun (p, L, as, rs, q, r, av, i) H v H' => v = .non ∧ Chg [L] H H' ∧ H' L = some (.lst ((as.take i ++ [q] ++ as.drop i).map V.ref)))
abbrev N_Heap_put : List PySem.Str := ["self", "parcel", "ahead", "place"]
theorem sc_Heap_put : FnScope N_Heap_put ["self", "parcel", "ahead"] d_Heap_put.scope := ⟨rfl, rfl, rfl, by decide +kernel, rfl, by decide +kernel, by decide +kernel⟩
theorem putD (T : TX K mg) {dvs : List V} (hb : BindsD K d_Heap_put ["self", "parcel", "ahead"] dvs) : Met P w K mg base 3 (CH K) "put" (spHput (K := K)) dvs := by
  refine metD T T.f_Heap_put T.cl_Heap T.me_Heap_put hb sc_Heap_put (fun _ => rfl) fun cdv A outer s0 H Q E f g hr hp k => ?_
  obtain ⟨p, L, as, rs, q, r, av, i⟩ := g
  obtain ⟨hh, hq, hnew, h12, hav⟩ := hp
  refine ⟨_, (pss_cons (ps_if (pt_not (pt_val (pe_callB (C8.call_isC T.is_Parcel) rfl T.n_isinstance b_isinstance (pa_cons (pv 1) (pa_cons (pe_gc rfl T.v_Parcel) pa_nil))))) (pss_one ps_never) pss_nil)
    (pss_cons (ps_if (pt_cmpR (op_inK K rfl) (pe_mt0 (c_Parcel_name T) hr (by decide) (pv 1)) (pe_mt0 (c_Heap_names T) hr (by decide) (pv 0)) rfl) (pss_one ps_never) pss_nil)
    (pss_cons (ps_set (i := 3) sc_Heap_put.nd rfl (Or.inl rfl) (pe_callB (call_len_seq) rfl T.n_len b_len (pa_cons (pe_fld (pv 0) rfl) pa_nil)))
    (pss_cons (ps_if (pt_cmpR (op_notN) (pv 2) pe_non (nomark _)) (pss_one (ps_set (i := 3) sc_Heap_put.nd rfl (Or.inl rfl) (pe_mt (c_Heap_place_of T) hr (by decide) (pv 0) (pa_cons (pv 2) pa_nil)))) pss_nil)
    (pss_cons (ps_if (pt_cmpR (op_eq) (pe_callB (call_len_seq) rfl T.n_len b_len (pa_cons (pe_fld (pv 0) rfl) pa_nil)) (pe_gc rfl T.v_MOST_PARCELS) (nomark _)) (pss_one ps_never) pss_nil)
    (pss_one (ps_expr (pe_bm PySem.F.plainAttrs_list PySem.F.slot_list_insert PySem.F.type_list_insert mt_insert (pe_fld (pv 0) rfl) (pa_cons (pv 3) (pa_cons (pv 1) pa_nil)))))))))), ?_⟩
  have hq0 := hq
  obtain ⟨dxq, sq, lq, hq1, hq2, hq3⟩ := hq
  obtain ⟨dx, h1⟩ := hh.ob
  refine ⟨_, rfl, q, dxq, _, rfl, hq1, _, rfl, iteF ?_⟩
  refine ⟨_, rfl, q, dxq, _, rfl, hq1, rfl, (q, r), rfl, hq0, fun v H2 hv => ?_⟩
  obtain ⟨rfl, rfl⟩ := hv
  refine ⟨_, rfl, p, dx, _, rfl, h1, rfl, (p, L, as, rs), rfl, ⟨hh, Nat.le_of_lt h12⟩, fun v H3 hv => ?_⟩
  obtain ⟨e3, l, rfl, hl0, hl⟩ := hv
  refine ⟨l, _, rfl, .inl (SqL.of hl), rfl, flat_strs _, _, rfl, ?_⟩
  rw [if_neg Bool.false_ne_true, inV_str, decide_eq_false hnew]
  refine iteF ?_
  have hh3 := hh.same e3
  have h13 := e3 _ _ h1
  refine ⟨_, rfl, p, _, dx, _, _, rfl, h13, T.cl_Heap, T.na_Heap_held, rfl, L, _, rfl, .inl (SqL.of hh3.ls), ?_⟩
  have last : ∀ (σ : L2.St) (H4 : Hp), Same H2 H4 → i ≤ rs.length → σ[3]? = some (some (.int (i : Nat))) → σ[0]? = some (some (.ref p)) → σ[1]? = some (some (.ref q)) →
      tSeq (tIfS (tTest (tOp rEq (tCB (fun xs H Q => ∃ p ys, xs = [V.ref p] ∧ (SqL K H p ys ∨ SqT K H p ys) ∧ Q (V.int ys.length) H) (tCons (tFld K (tVar 0) "held") tNil)) (tC (.int 12)))) tNever tNext)
        (tDrop (tBM K "list" (fun x vs H Q => ∃ l xs i y, x = V.ref l ∧ vs = [V.int i, y] ∧ H l = some (HO.lst xs) ∧ xs.length < sizeLine ∧ 0 ≤ i ∧ i < 2 ^ 63 ∧ Q V.non (upd H l (HO.lst (List.take i.toNat xs ++ [y] ++ List.drop i.toNat xs))))
          (tFld K (tVar 0) "held") (tCons (tVar 3) (tCons (tVar 1) tNil)))) { nx := fun _ H' => Q .non H', rt := Q } σ H4 := by
    intro σ H4 e4 hi s3 s0 s1
    have hh4 := hh.same e4
    have h14 := e4 _ _ h1
    refine ⟨_, s0, p, _, dx, _, _, rfl, h14, T.cl_Heap, T.na_Heap_held, rfl, L, _, rfl, .inl (SqL.of hh4.ls), rfl, false, ?_, iteF ?_⟩
    · refine congrArg V.bl (decide_eq_false fun z => ?_)
      have := V.int.inj z
      rw [List.length_map, hh.len] at this
      omega
    refine ⟨_, s0, p, _, dx, _, _, rfl, h14, T.cl_Heap, T.na_Heap_held, rfl, .inl ⟨rfl, _, SqL.of hh4.ls⟩, _, s3, _, s1, L, _, (i : Int), _, rfl, rfl, hh4.ls, ?_, Int.natCast_nonneg i, by omega, ?_⟩
    · rw [List.length_map, hh.len]
      exact smallt _ (by omega)
    · refine k _ _ ⟨rfl, Chg.upd (Chg.of e4) (List.mem_singleton_self L), ?_⟩
      rw [upd_same, Int.toNat_natCast, List.map_append, List.map_append, List.map_take, List.map_drop]
      rfl
  rcases hav with ⟨rfl, rfl⟩ | ⟨x, rfl, pl⟩
  · refine ⟨_, rfl, rfl, _, rfl, iteF ?_⟩
    refine last _ _ e3 (Nat.le_refl _) ?_ rfl rfl
    rw [List.length_map, hh.len]
    rfl
  · refine ⟨_, rfl, rfl, _, rfl, iteT ?_⟩
    refine ⟨_, rfl, p, dx, _, rfl, h13, rfl, _, rfl, (p, L, as, rs, x, i), rfl, ⟨hh3, pl⟩, fun v H4 hv => ?_⟩
    obtain ⟨e4, rfl⟩ := hv
    exact last _ _ (fun b o e => e4 _ _ (e3 _ _ e)) (Nat.le_of_lt pl.lt) rfl rfl rfl
theorem c_Heap_put (T : TX K mg) : Met P w K mg base 3 (CH K) "put" (spHput (K := K)) [] :=
  putD T (binds1 3 1 (List.cons_ne_nil _ _) rfl fun _ _ _ _ _ _ _ us its hl hi => match us, hl, its, hi with | [_, _, _], _, [_], _ => ⟨_, rfl, rfl⟩)
theorem c_Heap_put1 (T : TX K mg) : Met P w K mg base 3 (CH K) "put" (spHput (K := K)) [.non] :=
  putD T (binds1 2 0 (List.cons_ne_nil _ _) rfl fun _ _ _ _ _ _ _ us its hl hi => match us, hl, its, hi with | [_, _], _, [_], _ => ⟨_, rfl, rfl⟩)
def spHout : Sp := SpG (G := Addr × Addr × List Addr × List Row × Str × Nat) (fun (p, _, _, _, x, _) => [.ref p, .str x]) (fun (p, L, as, rs, x, i) H => HeapR K H p L as rs ∧ PlaceAt rs x i ∧ rs.length ≤ 12) (fun (p, L, as, rs, x, i) H v H' => Chg [L] H H' ∧ H' L = some (.lst ((as.eraseIdx i).map V.ref)))
theorem seqIndex_nat {i n : Nat} (h : i < n) : seqIndex? (i : Int) n = some i := by
  unfold seqIndex?
  simp
  omega
abbrev N_Heap_out : List PySem.Str := ["self", "name"]
theorem sc_Heap_out : FnScope N_Heap_out ["self", "name"] d_Heap_out.scope := ⟨rfl, rfl, rfl, by decide +kernel, rfl, by decide +kernel, by decide +kernel⟩
theorem c_Heap_out (T : TX K mg) : Met P w K mg base 3 (CH K) "out" (spHout (K := K)) [] := by
  refine metD T T.f_Heap_out T.cl_Heap T.me_Heap_out (bindsN rfl fun _ _ _ _ _ _ us hl => match us, hl with | [_, _], _ => rfl) sc_Heap_out (fun _ => rfl) fun cdv A outer s0 H Q E f g hr hp k => ?_
  obtain ⟨p, L, as, rs, x, i⟩ := g
  obtain ⟨hh, pl, h12⟩ := hp
  obtain ⟨dx, h1⟩ := hh.ob
  refine ⟨_, (pss_one (ps_ret (pe_bm PySem.F.plainAttrs_list PySem.F.slot_list_pop PySem.F.type_list_pop mt_popAt (pe_fld (pv 0) rfl) (pa_cons (pe_mt (c_Heap_place_of T) hr (by decide) (pv 0) (pa_cons (pv 1) pa_nil)) pa_nil)))), ?_⟩
  refine ⟨_, rfl, p, _, dx, _, _, rfl, h1, T.cl_Heap, T.na_Heap_held, rfl, .inl ⟨rfl, _, SqL.of hh.ls⟩, _, rfl, p, dx, _, rfl, h1, rfl, _, rfl, (p, L, as, rs, x, i), rfl, ⟨hh, pl⟩, fun v H2 hv => ?_⟩
  obtain ⟨e2, rfl⟩ := hv
  have hi : i < as.length := by
    rw [hh.len]
    exact pl.lt
  have h12' : as.length ≤ 12 := by
    rw [hh.len]
    exact h12
  refine ⟨L, _, _, i, .ref as[i], rfl, rfl, e2 _ _ hh.ls, by omega, by omega, ?_, ?_, k _ _ ⟨Chg.upd (Chg.of e2) (List.mem_singleton_self L), ?_⟩⟩
  · rw [List.length_map]
    exact seqIndex_nat hi
  · rw [List.getElem?_map, List.getElem?_eq_getElem hi]
    rfl
  · rw [upd_same, erase_map]
end
end BX
end
section
set_option Elab.async false
set_option linter.all false
set_option maxRecDepth 100000
set_option maxHeartbeats 4000000
namespace BX
open PySem PySem.Spec PyProof.Rows L2
open C8 (Cal Mak Met pe_c pe_mk pe_mt pe_mt0 pe_gc)
/-! ### which goes in which -/
def Row.alone (r : Row) : Bool := decide (("alone" : Str) ∈ r.marks)
/-- rank by rank -/
def fitsR (r q : Row) (spare : Int) : Bool := (List.zip (ranked r.a r.b r.c) (ranked (q.a - 2 * q.wall) (q.b - 2 * q.wall) (q.c - 2 * q.wall))).all fun z => decide (z.1 + spare ≤ z.2)
def roomy (q : Row) : Bool := decide (¬ min q.a (min q.b q.c) - 2 * q.wall < 1)
def goesR (spare : Int) (r q : Row) : Bool := !r.alone && (!q.alone && (roomy q && fitsR r q spare))
def outOf (spare : Int) (rs : List Row) : List (Str × List Str) := rs.map fun r => (r.name, (rs.filter (goesR spare r)).map Row.name)
section
variable {P : Program} {w : World} {K : PySem.W.Frag} {mg : Str → Option Value} {base : Heap}
/-- the two shapes of a row: none, or three each -/
def shIn (r : Row) : Option (List Int) := if r.alone then none else some (ranked r.a r.b r.c)
def shOut (r : Row) : Option (List Int) := if r.alone then none else if roomy r then some (ranked (r.a - 2 * r.wall) (r.b - 2 * r.wall) (r.c - 2 * r.wall)) else none
def ShAt (H : Hp) (v : V) : Option (List Int) → Prop
  | none => v = .non
  | some l => ∃ q, v = .ref q ∧ H q = some (.tup (l.map V.int))
theorem ShAt.same {H H' : Hp} {v : V} {o : Option (List Int)} (e : Same H H') (h : ShAt H v o) : ShAt H' v o := by
  cases o with
  | none => exact h
  | some l =>
    obtain ⟨q, h1, h2⟩ := h
    exact ⟨q, h1, e _ _ h2⟩
def spShape : Sp := SpG (G := Addr × Row) (fun (p, _) => [.ref p]) (fun (p, r) H => ParcelAt K H p r ∧ RowOk r) (fun (p, r) H v H' => Same H H' ∧ ∃ t x y, v = .ref t ∧ H' t = some (.tup [x, y]) ∧ ShAt H' x (shIn r) ∧ ShAt H' y (shOut r))
abbrev N_shape_of : List PySem.Str := ["parcel", "room"]
theorem sc_shape_of : FnScope N_shape_of ["parcel"] d_shape_of.scope := ⟨rfl, rfl, rfl, by decide +kernel, rfl, by decide +kernel, by decide +kernel⟩
theorem c_shape_of (T : TX K mg) : Cal P w K mg base 6 "shape_of" (spShape (K := K)) [] := by
  refine calD T T.f_shape_of rfl T.g_shape_of (bindsN rfl fun _ _ _ _ _ _ us hl => match us, hl with | [_], _ => rfl) sc_shape_of (fun _ => rfl) fun cdv A outer s0 H Q E f g hr hp k => ?_
  obtain ⟨p, r⟩ := g
  obtain ⟨hp, ok⟩ := hp
  have hp0 := hp
  obtain ⟨dx, s, l, h1, h2, h3⟩ := hp
  refine ⟨_, (pss_cons (ps_if (pt_cmpR (op_inK K rfl) pe_str (pe_mt0 (c_Parcel_labels T) hr (by decide) (pv 0)) rfl) (pss_one (ps_ret (pe_tup (pa_cons pe_non (pa_cons pe_non pa_nil))))) pss_nil)
    (pss_cons (ps_set (i := 1) sc_shape_of.nd rfl (Or.inl rfl) (pe_mt0 (c_Parcel_room T) hr (by decide) (pv 0)))
    (pss_one (ps_ret (pe_tup (pa_cons (pe_mt0 (c_Sides_ranked T) hr (by decide) (pe_mt0 (c_Parcel_sides T) hr (by decide) (pv 0))) (pa_cons (pe_ifExp (pt_cmpR (op_isN) (pv 1) pe_non (nomark _)) pe_non (pe_mt0 (c_Sides_ranked T) hr (by decide) (pv 1))) pa_nil))))))), ?_⟩
  refine ⟨_, rfl, p, dx, _, rfl, h1, rfl, (p, r), rfl, hp0, fun v H2 hv => ?_⟩
  obtain ⟨e2, l2, rfl, hl2⟩ := hv
  refine ⟨l2, _, rfl, .inl (SqL.of hl2), rfl, flat_strs _, _, rfl, ?_⟩
  rw [if_neg Bool.false_ne_true, inV_str]
  refine ite2 (fun c => ?_) (fun c => ?_)
  · have ca : r.alone = true := c
    refine ⟨small 2 (by decide), fun t ht => k _ _ ⟨fun b o e => same_new ht _ _ _ (e2 _ _ e), t, _, _, rfl, upd_same, ?_, ?_⟩⟩
    · unfold shIn
      rw [if_pos ca]
      rfl
    · unfold shOut
      rw [if_pos ca]
      rfl
  · have ca : r.alone = false := Bool.eq_false_iff.mpr c
    have hp2 := hp0.same e2
    refine ⟨_, rfl, p, dx, _, rfl, e2 _ _ h1, rfl, (p, r), rfl, ⟨hp2, ok⟩, fun v H3 hv => ?_⟩
    obtain ⟨e3, hroom⟩ := hv
    have e03 : Same H H3 := fun b o e => e3 _ _ (e2 _ _ e)
    refine ⟨_, rfl, p, dx, _, rfl, e03 _ _ h1, rfl, (p, r), rfl, hp0.same e03, fun v3 H4 hv => ?_⟩
    obtain ⟨e4, s4, rfl, hs4⟩ := hv
    subst e4
    obtain ⟨dxs, ts, hs1, hs2⟩ := hs4
    refine ⟨s4, dxs, _, rfl, hs1, rfl, (s4, r.a, r.b, r.c), rfl, ⟨dxs, ts, hs1, hs2⟩, fun v4 H5 hv => ?_⟩
    obtain ⟨e5, q5, rfl, hq5⟩ := hv
    have hin : ∀ H6, Same H5 H6 → ShAt H6 (.ref q5) (shIn r) := fun H6 e6 => by
      unfold shIn
      rw [if_neg (by rw [ca]; exact Bool.false_ne_true)]
      exact ⟨q5, rfl, e6 _ _ hq5⟩
    have e05 : Same H H5 := fun b o e => e5 _ _ (e03 _ _ e)
    rcases hroom with ⟨hr1, rfl⟩ | ⟨hr1, q, rfl, hq⟩
    · refine ⟨_, rfl, rfl, _, rfl, iteT ?_⟩
      refine ⟨small 2 (by decide), fun t ht => k _ _ ⟨fun b o e => same_new ht _ _ _ (e05 _ _ e), t, _, _, rfl, upd_same, hin _ (same_new ht _), ?_⟩⟩
      unfold shOut roomy
      rw [if_neg (by rw [ca]; exact Bool.false_ne_true), if_neg (by rw [decide_eq_false (fun z => z hr1)]; exact Bool.false_ne_true)]
      rfl
    · refine ⟨_, rfl, rfl, _, rfl, iteF ?_⟩
      have hq5' := hq.same e5
      obtain ⟨dxq, tq, hq1, hq2⟩ := hq5'
      refine ⟨_, rfl, q, dxq, _, rfl, hq1, rfl, (q, r.a - 2 * r.wall, r.b - 2 * r.wall, r.c - 2 * r.wall), rfl, ⟨dxq, tq, hq1, hq2⟩, fun v6 H6 hv => ?_⟩
      obtain ⟨e6, q6, rfl, hq6⟩ := hv
      refine ⟨small 2 (by decide), fun t ht => k _ _ ⟨fun b o e => same_new ht _ _ _ (e6 _ _ (e05 _ _ e)), t, _, _, rfl, upd_same, hin _ (fun b o e => same_new ht _ _ _ (e6 _ _ e)), ?_⟩⟩
      unfold shOut roomy
      rw [if_neg (by rw [ca]; exact Bool.false_ne_true), if_pos (decide_eq_true hr1)]
      exact ⟨q6, rfl, same_new ht _ _ _ hq6⟩
def goSh (spare : Int) : Option (List Int) → Option (List Int) → Bool
  | some l, some m => (List.zip l m).all fun z => decide (z.1 + spare ≤ z.2)
  | _, _ => false
theorem goSh_rows (spare : Int) (r q : Row) : goSh spare (shIn r) (shOut q) = goesR spare r q := by
  unfold goesR shIn shOut
  cases r.alone
  · cases q.alone
    · cases roomy q
      · rfl
      · rfl
    · rfl
  · rfl
def Few : Option (List Int) → Prop
  | none => True
  | some l => l.length ≤ 3
theorem few_in (r : Row) : Few (shIn r) := by
  unfold shIn
  cases r.alone
  · exact Nat.le_refl 3
  · trivial
theorem few_out (r : Row) : Few (shOut r) := by
  unfold shOut
  cases r.alone
  · cases roomy r
    · trivial
    · exact Nat.le_refl 3
  · trivial
def spSg : Sp := SpG (G := V × V × Int × Option (List Int) × Option (List Int)) (fun (x, y, sp, _, _) => [x, y, .int sp]) (fun (x, y, sp, o, u) H => ShAt H x o ∧ ShAt H y u ∧ Few o ∧ Few u) (fun (x, y, sp, o, u) H v H' => Same H H' ∧ v = .bl (goSh sp o u))
abbrev N_shape_goes : List PySem.Str := ["sides", "room", "spare", "side", "most"]
theorem sc_shape_goes : FnScope N_shape_goes ["sides", "room", "spare"] d_shape_goes.scope := ⟨rfl, rfl, rfl, by decide +kernel, rfl, by decide +kernel, by decide +kernel⟩
theorem c_shape_goes (T : TX K mg) : Cal P w K mg base 1 "shape_goes" (spSg) [] := by
  refine calD T T.f_shape_goes rfl T.g_shape_goes (bindsN rfl fun _ _ _ _ _ _ us hl => match us, hl with | [_, _, _], _ => rfl) sc_shape_goes (fun _ => rfl) fun cdv A outer s0 H Q E f g hr hp k => ?_
  obtain ⟨x, y, sp, o, u⟩ := g
  obtain ⟨hx, hy, fo, fu⟩ := hp
  refine ⟨_, (pss_cons (ps_if (PW.pt (pw_or (pt_cmpR (op_isN) (pv 0) pe_non (nomark _)) (pw_or1 (pt_cmpR (op_isN) (pv 1) pe_non (nomark _))))) (pss_one (ps_ret pe_bl)) pss_nil)
    (pss_one (ps_ret (pe_callB (cr_all rfl) rfl T.n_all b_all (pa_cons (pe_lc (own := [("side", 3), ("most", 4)]) rfl sc_shape_goes.nd (RZ.pi_zipA rfl T.n_zip (pa_cons (pv 0) (pa_cons (pv 1) pa_nil))) (blkOk_by (own := [("side", 3), ("most", 4)]) (N := N_shape_goes) (sc := d_shape_goes.scope) (by decide +kernel)) (fun _ _ _ _ _ => (pg_tupK (n := 2) K rfl rfl (pgs_cons (pg_name (i := 3) sc_shape_goes.nd rfl (Or.inl rfl)) (pgs_cons (pg_name (i := 4) sc_shape_goes.nd rfl (Or.inl rfl)) pgs_nil)))) (fun _ _ _ _ _ => pts_nil) (fun _ _ _ _ _ => (pe_cmpR (op_le) (pe_op op_add (pv 3) (pv 2)) (pv 4) (nomark _)))) pa_nil))))), ?_⟩
  cases o with
  | none =>
    obtain rfl : x = .non := hx
    exact ⟨_, rfl, rfl, _, rfl, iteT (iteT (k _ _ ⟨fun _ _ e => e, rfl⟩))⟩
  | some l =>
    obtain ⟨p, rfl, hp⟩ := hx
    refine ⟨_, rfl, rfl, _, rfl, iteF ?_⟩
    cases u with
    | none =>
      obtain rfl : y = .non := hy
      exact ⟨_, rfl, rfl, _, rfl, iteT (k _ _ ⟨fun _ _ e => e, rfl⟩)⟩
    | some m =>
      obtain ⟨q, rfl, hq⟩ := hy
      refine ⟨_, rfl, rfl, _, rfl, iteF ?_⟩
      refine ⟨_, rfl, _, rfl, p, q, _, _, rfl, .inr ⟨SqT.of hp, SqT.of hq, fun D hD => ?_⟩⟩
      have hlen : (List.zip l m).length = min (l.map V.int).length (m.map V.int).length := by rw [List.length_zip, List.length_map, List.length_map]
      have h3 : l.length ≤ 3 := fo
      refine lc_it (walk_zipT (K := K) (a := p) (b := q) (xs := l.map V.int) (ys := m.map V.int) hlen) (fun i H' => Same H H' ∧ H' D = some (.lst (((List.zip l m).take i).map fun z => V.bl (decide (z.1 + sp ≤ z.2))))) ⟨same_new hD _, by rw [upd_same]; rfl⟩ (fun i H' _ h => ⟨SqT.of (h.1 _ _ hp), SqT.of (h.1 _ _ hq)⟩) ?_ ?_
      · rintro i v H1 H2 hi ⟨hs, hd⟩ ⟨U, a, b, rfl, hU, rfl, ha, hb⟩
        have ha : (l.map V.int)[i]? = some a := ha
        have hb : (m.map V.int)[i]? = some b := hb
        rw [List.getElem?_map] at ha hb
        obtain ⟨a', ha', rfl⟩ := Option.map_eq_some_iff.mp ha
        obtain ⟨b', hb', rfl⟩ := Option.map_eq_some_iff.mp hb
        have eU : Same H1 (upd H1 U (.tup [.int a', .int b'])) := same_new hU _
        refine ⟨U, _, rfl, SqT.of upd_same, rfl, _, _, rfl, _, _, rfl, rfl, rfl, ?_⟩
        refine ⟨_, rfl, _, rfl, _, _, rfl, rfl, _, rfl, _, _, rfl, rfl, _, eU _ _ hd, ?_, ?_⟩
        · rw [List.length_map, List.length_take, List.length_zip]
          exact smallt _ (by omega)
        · refine ⟨fun b o e => ?_, ?_⟩
          · rw [upd_ne (ne_of_none e hD)]
            exact eU _ _ (hs _ _ e)
          · have hz : (List.zip l m)[i]? = some (a', b') := List.getElem?_zip_eq_some.mpr ⟨ha', hb'⟩
            rw [upd_same, List.take_add_one, List.map_append, hz]
            rfl
      · rintro H' ⟨hs, hd⟩
        rw [List.take_length] at hd
        refine ⟨D, (List.zip l m).map fun z => decide (z.1 + sp ≤ z.2), rfl, SqL.of (by rw [hd, List.map_map]; rfl), k _ _ ⟨hs, ?_⟩⟩
        refine congrArg V.bl ?_
        rw [List.all_map]
        rfl
end
end BX
end
section
set_option Elab.async false
set_option linter.all false
set_option maxRecDepth 100000
set_option maxHeartbeats 4000000
namespace BX
open PySem PySem.Spec PyProof.Rows L2
open C8 (Cal Mak Met pe_c pe_mk pe_mt pe_mt0 pe_gc)
section
variable {P : Program} {w : World} {K : PySem.W.Frag} {mg : Str → Option Value} {base : Heap}
/-- a tuple of a row at t -/
def RowT (H : Hp) (t : Addr) (r : Row) : Prop := ∃ x y, H t = some (.tup [.str r.name, x, y]) ∧ ShAt H x (shIn r) ∧ ShAt H y (shOut r)
theorem RowT.same {H H' : Hp} {t : Addr} {r : Row} (e : Same H H') (h : RowT H t r) : RowT H' t r := by
  obtain ⟨x, y, h1, h2, h3⟩ := h
  exact ⟨x, y, e _ _ h1, h2.same e, h3.same e⟩
/-- tuples stay, whatever lists and dicts at S become -/
theorem ShAt.chg {H H' : Hp} {S : List Addr} {v : V} {o : Option (List Int)} (e : Chg S H H') (hS : ∀ a ∈ S, ∀ xs, H a ≠ some (.tup xs)) (h : ShAt H v o) : ShAt H' v o := by
  cases o with
  | none => exact h
  | some l =>
    obtain ⟨q, h1, h2⟩ := h
    exact ⟨q, h1, e _ _ (fun z => hS _ z _ h2) h2⟩
theorem RowT.chg {H H' : Hp} {S : List Addr} {t : Addr} {r : Row} (e : Chg S H H') (hS : ∀ a ∈ S, ∀ xs, H a ≠ some (.tup xs)) (h : RowT H t r) : RowT H' t r := by
  obtain ⟨x, y, h1, h2, h3⟩ := h
  exact ⟨x, y, e _ _ (fun z => hS _ z _ h1) h1, h2.chg e hS, h3.chg e hS⟩
theorem not_tup1 {H : Hp} {a : Addr} {o : HO} (h : H a = some o) (n : ∀ xs, o ≠ .tup xs) : ∀ b ∈ [a], ∀ xs, H b ≠ some (.tup xs) := fun b hb xs z => by
  rw [List.mem_singleton.mp hb, h] at z
  exact n xs (Option.some.inj z)
theorem OutAt.len {H : Hp} {d : Addr} {o : List (Str × List Str)} (h : OutAt H d o) : True := trivial
/-- a new key goes to the end -/
theorem putK_end {kvs : List (Key × V)} {k : Str} {v : V} (h : (Sum.inr k : Key) ∉ kvs.map (·.1)) : putK kvs (Sum.inr k : Key) v = kvs ++ [((Sum.inr k : Key), v)] := by
  unfold putK
  have e : (kvs.any fun kv => decide (kv.1 = (Sum.inr k : Key))) = false := by
    rw [Bool.eq_false_iff, Ne, List.any_eq_true]
    rintro ⟨x, hx, hk⟩
    exact h (List.mem_map.mpr ⟨x, hx, of_decide_eq_true hk⟩)
  rw [if_neg (by rw [e]; exact Bool.false_ne_true)]
theorem paired_fst {H : Hp} {kvs : List (Key × V)} {o : List (Str × List Str)} (h : Paired (fun (kv : Key × V) (p : Str × List Str) => kv.1 = Sum.inr p.1 ∧ ∃ l, kv.2 = .ref l ∧ H l = some (.lst (p.2.map V.str))) kvs o) : kvs.map (·.1) = o.map fun p => (Sum.inr p.1 : Key) := by
  induction h with
  | nil => rfl
  | cons r _ ih => rw [List.map_cons, List.map_cons, ih, r.1]
structure RowsOk (rs : List Row) : Prop where
  nd : (rs.map Row.name).Nodup
  ok : ∀ r ∈ rs, RowOk r
  l12 : rs.length ≤ 12
theorem take_map_notin {α β : Type} [DecidableEq β] {f : α → β} {l : List α} {i : Nat} {x : α} (hn : (l.map f).Nodup) (h : l[i]? = some x) : f x ∉ (l.take i).map f := by
  rintro hm
  obtain ⟨y, hy, e⟩ := List.mem_map.mp hm
  obtain ⟨j, hj⟩ := List.mem_iff_getElem?.mp hy
  have hji : j < i := by
    have h1 := (List.getElem?_eq_some_iff.mp hj).1
    rw [List.length_take] at h1
    omega
  rw [List.getElem?_take_of_lt hji] at hj
  have a1 : (l.map f)[j]? = some (f x) := by rw [List.getElem?_map, hj, ← e]; rfl
  have a2 : (l.map f)[i]? = some (f x) := by rw [List.getElem?_map, h]; rfl
  have := nodup_at hn a1 a2
  omega
theorem take_snoc {α : Type} {l : List α} {i : Nat} {x : α} (h : l[i]? = some x) : l.take (i + 1) = l.take i ++ [x] := by
  rw [List.take_add_one, h]
  rfl
def spInside : Sp := SpG (G := Addr × Addr × List Addr × List Row × Int) (fun (p, _, _, _, i) => [.ref p, .int i]) (fun (p, L, as, rs, i) H => HeapR K H p L as rs ∧ RowsOk rs ∧ 0 ≤ i ∧ i ≤ 1000)
  (fun (p, L, as, rs, i) H v H' => Same H H' ∧ ∃ d, v = .ref d ∧ H d = none ∧ OutAt H' d (outOf i rs))
abbrev N_inside : List PySem.Str := ["heap", "spare", "rows", "parcel", "sides", "room", "found", "name", "row"]
theorem sc_inside : FnScope N_inside ["heap", "spare"] d_inside.scope := ⟨rfl, rfl, rfl, by decide +kernel, rfl, by decide +kernel, by decide +kernel⟩
theorem c_inside (T : TX K mg) : Cal P w K mg base 7 "inside" (spInside (K := K)) [] := by
  refine calD T T.f_inside rfl T.g_inside (binds1 2 1 (List.cons_ne_nil _ _) rfl fun _ _ _ _ _ _ _ us its hl hi => match us, hl, its, hi with | [_, _], _, [_], _ => ⟨_, rfl, rfl⟩) sc_inside (fun _ => rfl) fun cdv A outer s0 H Q E f g hr hp k => ?_
  obtain ⟨p, L, as, rs, sp⟩ := g
  obtain ⟨hh, ok, hs0, hs1⟩ := hp
  have hlen := hh.len
  refine ⟨_, (pss_cons (ps_expr (pe_c (c_need_spare T) hr (by decide) rfl (pa_cons (pv 1) pa_nil)))
    (pss_cons (ps_set (i := 2) sc_inside.nd rfl (Or.inl rfl) (pe_lst pa_nil))
    (pss_cons (ps_for PassesOwn.never rfl (pi_listK K rfl (pe_mt0 (c_Heap_parcels T) hr (by decide) (pv 0))) (pg_name (i := 3) sc_inside.nd rfl (Or.inl rfl)) (pss_cons (ps_asg (pe_c (c_shape_of T) hr (by decide) rfl (pa_cons (pv 3) pa_nil)) (pg_tupK (n := 2) K rfl rfl (pgs_cons (pg_name (i := 4) sc_inside.nd rfl (Or.inr rfl)) (pgs_cons (pg_name (i := 5) sc_inside.nd rfl (Or.inl rfl)) pgs_nil))))
      (pss_one (ps_expr (pe_bm PySem.F.plainAttrs_list PySem.F.slot_list_append PySem.F.type_list_append mt_append (pv 2) (pa_cons (pe_tup (pa_cons (pe_mt0 (c_Parcel_name T) hr (by decide) (pv 3)) (pa_cons (pv 4) (pa_cons (pv 5) pa_nil)))) pa_nil))))))
    (pss_cons (ps_set (i := 6) sc_inside.nd rfl (Or.inl rfl) pe_dnewK)
    (pss_cons (ps_for PassesOwn.never rfl (pi_listK K rfl (pv 2)) (pg_tupK (n := 3) K rfl rfl (pgs_cons (pg_name (i := 7) sc_inside.nd rfl (Or.inl rfl)) (pgs_cons (pg_name (i := 4) sc_inside.nd rfl (Or.inr rfl)) (pgs_cons (pg_name (i := 5) sc_inside.nd rfl (Or.inl rfl)) pgs_nil)))) (pss_one (ps_dput (hu_of hr) (pv 6) (pv 7) (pe_lc (own := [("row", 8)]) rfl sc_inside.nd (pi_listK K rfl (pv 2)) (blkOk_by (own := [("row", 8)]) (N := N_inside) (sc := d_inside.scope) (by decide +kernel)) (fun _ _ _ _ _ => (pg_name (i := 8) sc_inside.nd rfl (Or.inl rfl))) (fun _ _ _ _ _ => (pts_one (pt_val (pe_c (c_shape_goes T) hr (by decide) rfl (pa_cons (pv 4) (pa_cons (pe_ix (ix_tupK K rfl) (pv 8) pe_int (fun _ _ => rfl)) (pa_cons (pv 1) pa_nil))))))) (fun _ _ _ _ _ => (pe_ix (ix_tupK K rfl) (pv 8) pe_int (fun _ _ => rfl)))) rfl)))
    (pss_one (ps_ret (pv 6)))))))), ?_⟩
  refine ⟨_, rfl, sp, rfl, ⟨hs0, hs1⟩, fun v H0 hv => ?_⟩
  obtain ⟨rfl, rfl⟩ := hv
  refine ⟨small 0 (by decide), fun R hR => ?_⟩
  have e1 : Same H0 (upd H0 R (.lst [])) := same_new hR _
  have r1 : upd H0 R (.lst []) R = some (.lst []) := upd_same
  generalize upd H0 R (.lst []) = H1 at e1 r1
  have hh1 := hh.same e1
  obtain ⟨dx, h1⟩ := hh1.ob
  refine ⟨_, rfl, p, dx, _, rfl, h1, rfl, (p, L, as, rs), rfl, hh1, fun v H2 hv => ?_⟩
  obtain ⟨e2, l, rfl, hl0, hl⟩ := hv
  have hz : (as.zip rs).map (fun z => z.1) = as := by
    rw [List.map_fst_zip]
    exact Nat.le_of_eq hlen
  have hz2 : (as.zip rs).map (fun z => z.2) = rs := by
    rw [List.map_snd_zip]
    exact Nat.le_of_eq hlen.symm
  have hw : as.map V.ref = (as.zip rs).map fun z => V.ref z.1 := by
    conv => lhs; rw [← hz]
    rw [List.map_map]
    rfl
  rw [hw] at hl
  have hh2 := hh1.same e2
  have r2 := e2 _ _ r1
  have hlR : l ∉ [R] := fun z => by
    rw [List.mem_singleton.mp z, r1] at hl0
    cases hl0
  have e02 : Same H0 H2 := fun b o e => e2 _ _ (e1 _ _ e)
  have hRn : ∀ b o, H0 b = some o → b ∉ [R] := fun b o e z => by
    rw [List.mem_singleton.mp z, hR] at e
    cases e
  have hzl : (as.zip rs).length ≤ 12 := by
    have := ok.l12
    rw [List.length_zip]
    omega
  refine ⟨l, rfl, ⟨_, SqL.of hl⟩, ?_⟩
  refine for_it (wl (K := K) (a := l) (as.zip rs) fun z => V.ref z.1) (fun i σ H' => Chg [R] H2 H' ∧ Sl [3, 4, 5, 7, 8] (L2.start N_inside [V.ref p, .int sp] |>.set 2 (some (.ref R))) σ ∧ ∃ ts, H' R = some (.lst (ts.map V.ref)) ∧ Paired (RowT H') ts (rs.take i))
    ⟨Chg.refl, Sl.refl, [], r2, .nil⟩ (fun i σ H' _ h => SqL.of (h.1 _ _ hlR hl)) ?_ ?_
  · rintro i v σ H3 H4 hi ⟨hc, hσ, ts, hts, hpt⟩ ⟨hH, ⟨a, r⟩, hz4, rfl⟩
    subst hH
    have hri : rs[i]? = some r := by
      conv => lhs; rw [← hz2]
      rw [List.getElem?_map, hz4]
      rfl
    have hrm : r ∈ rs := List.mem_of_getElem? hri
    have hpa2 : ParcelAt K H0 a r := paired_zip hh.ps (List.mem_of_getElem? hz4)
    have e03 : Same H0 H4 := fun b o e => hc _ _ (hRn _ _ e) (e02 _ _ e)
    refine ⟨_, hσ.s, (a, r), rfl, ⟨hpa2.same e03, ok.ok r hrm⟩, fun v H5 hv => ?_⟩
    obtain ⟨e5, t, x, y, rfl, ht, hx, hy⟩ := hv
    refine ⟨t, _, rfl, SqT.of ht, rfl, _, _, rfl, _, _, rfl, rfl, ?_⟩
    have hσ2 : Sl [3, 4, 5, 7, 8] _ (((σ.set 3 (some (.ref a))).set 4 (some x)).set 5 (some y)) := ((hσ.set (by decide)).set (by decide)).set (by decide)
    have s5 : (((σ.set 3 (some (.ref a))).set 4 (some x)).set 5 (some y))[5]? = some (some y) := ((hσ.set (by decide)).set (by decide)).s
    have s4 : (((σ.set 3 (some (.ref a))).set 4 (some x)).set 5 (some y))[4]? = some (some x) := by
      rw [List.getElem?_set_ne (by decide)]
      exact (hσ.set (by decide)).s
    have s3 : (((σ.set 3 (some (.ref a))).set 4 (some x)).set 5 (some y))[3]? = some (some (.ref a)) := by
      rw [List.getElem?_set_ne (by decide), List.getElem?_set_ne (by decide)]
      exact hσ.s
    generalize ((σ.set 3 (some (.ref a))).set 4 (some x)).set 5 (some y) = σ3 at hσ2 s5 s4 s3
    have e05 : Same H0 H5 := fun b o e => e5 _ _ (e03 _ _ e)
    obtain ⟨dxp, q1⟩ : ∃ dxp, True := ⟨0, trivial⟩
    have hpa5 := hpa2.same e05
    have hpa5' := hpa5
    obtain ⟨dxp, sq, lq, q1, q2, q3⟩ := hpa5
    refine ⟨_, hσ2.g 2 (by decide) rfl, .inl ⟨rfl, _, SqL.of (e5 _ _ hts)⟩, _, s3, a, dxp, _, rfl, q1, rfl, (a, r), rfl, hpa5', fun v H6 hv => ?_⟩
    obtain ⟨rfl, hH⟩ := hv
    subst hH
    refine ⟨_, s4, _, s5, small 3 (by decide), fun t2 ht2 => ?_⟩
    have e6 : Same H6 (upd H6 t2 (.tup [.str r.name, x, y])) := same_new ht2 _
    have ht6 : upd H6 t2 (.tup [.str r.name, x, y]) t2 = _ := upd_same
    generalize upd H6 t2 (.tup [.str r.name, x, y]) = H7 at e6 ht6
    have hR7 := e6 _ _ (e5 _ _ hts)
    have hlt : ts.length = (rs.take i).length := Paired.length hpt
    have ch7 : Chg [R] H2 (upd H7 R (.lst (ts.map V.ref ++ [.ref t2]))) := Chg.upd (fun b o n e => e6 _ _ (e5 _ _ (hc _ _ n e))) (List.mem_singleton_self R)
    refine ⟨R, _, _, rfl, rfl, hR7, ?_, ch7, hσ2, ts ++ [t2], ?_, ?_⟩
    · rw [List.length_map, hlt, List.length_take]
      have := ok.l12
      exact smallt _ (by omega)
    · rw [upd_same, List.map_append]
      rfl
    · rw [take_snoc hri]
      have c7 : Chg [R] H7 (upd H7 R (.lst (ts.map V.ref ++ [.ref t2]))) := Chg.upd Chg.refl (List.mem_singleton_self R)
      have nt := not_tup1 hR7 (fun xs => by intro z; cases z)
      refine paired_app (Paired.mapP hpt fun t r q => ((q.same e5).same e6).chg c7 nt) (.cons ?_ .nil)
      exact RowT.chg c7 nt ⟨x, y, ht6, (hx.same e6), (hy.same e6)⟩
  · rintro σ H3 ⟨hc, hσ, ts, hts, hpt⟩
    have e03 : Same H0 H3 := fun b o e => hc _ _ (hRn _ _ e) (e02 _ _ e)
    rw [List.take_of_length_le (by rw [List.length_zip]; omega)] at hpt
    have htl : ts.length = rs.length := Paired.length hpt
    refine fun d hd => ?_
    have e4 : Same H3 (upd H3 d (.dK [])) := same_new hd _
    have d4 : upd H3 d (.dK []) d = some (.dK []) := upd_same
    generalize upd H3 d (.dK []) = H4 at e4 d4
    have yz : (ts.zip rs).map (fun z => z.1) = ts := by
      rw [List.map_fst_zip]
      exact Nat.le_of_eq htl
    have yz2 : (ts.zip rs).map (fun z => z.2) = rs := by
      rw [List.map_snd_zip]
      exact Nat.le_of_eq htl.symm
    have yw : ts.map V.ref = (ts.zip rs).map fun z => V.ref z.1 := by
      conv => lhs; rw [← yz]
      rw [List.map_map]
      rfl
    have yl : (ts.zip rs).length ≤ 12 := by
      have := ok.l12
      rw [List.length_zip]
      omega
    have R4 := e4 _ _ hts
    have R4' := R4
    rw [yw] at R4
    have hdn : ∀ b o, H3 b = some o → b ∉ [d] := fun b o e z => by
      rw [List.mem_singleton.mp z, hd] at e
      cases e
    have hRd : R ∉ [d] := hdn _ _ hts
    have hpt4 : Paired (RowT H4) ts rs := Paired.mapP hpt fun t r q => q.same e4
    have d4n := not_tup1 d4 (fun xs => by intro z; cases z)
    have hσb := hσ.both 6 (some (.ref d))
    refine ⟨_, hσb.g 2 (by decide) rfl, R, rfl, ⟨_, SqL.of R4⟩, ?_⟩
    refine for_it (wl (K := K) (a := R) (ts.zip rs) fun z => V.ref z.1) (fun i σ H' => Chg [d] H4 H' ∧ Sl [3, 4, 5, 7, 8] ((L2.start N_inside [V.ref p, .int sp] |>.set 2 (some (.ref R))).set 6 (some (.ref d))) σ ∧ OutAt H' d ((outOf sp rs).take i))
      ⟨Chg.refl, hσb, [], d4, .nil⟩ (fun i σ H' _ h => SqL.of (h.1 _ _ hRd R4)) ?_ ?_
    · rintro i v σ5 H5 H6 hi ⟨hc5, hσ5, kvs, hkv, hpk⟩ ⟨hH, ⟨t, r⟩, hz6, rfl⟩
      subst hH
      have hri : rs[i]? = some r := by
        conv => lhs; rw [← yz2]
        rw [List.getElem?_map, hz6]
        rfl
      have ht6 : RowT H6 t r := (paired_zip hpt4 (List.mem_of_getElem? hz6)).chg hc5 d4n
      obtain ⟨x, y, q1, q2, q3⟩ := ht6
      refine ⟨t, _, rfl, SqT.of q1, rfl, _, _, rfl, _, _, rfl, _, _, rfl, rfl, ?_⟩
      have hσ2 : Sl [3, 4, 5, 7, 8] _ (((σ5.set 7 (some (.str r.name))).set 4 (some x)).set 5 (some y)) := ((hσ5.set (by decide)).set (by decide)).set (by decide)
      have s4 : (((σ5.set 7 (some (.str r.name))).set 4 (some x)).set 5 (some y))[4]? = some (some x) := by
        rw [List.getElem?_set_ne (by decide)]
        exact (hσ5.set (by decide)).s
      have s7 : (((σ5.set 7 (some (.str r.name))).set 4 (some x)).set 5 (some y))[7]? = some (some (.str r.name)) := by
        rw [List.getElem?_set_ne (by decide), List.getElem?_set_ne (by decide)]
        exact hσ5.s
      generalize ((σ5.set 7 (some (.str r.name))).set 4 (some x)).set 5 (some y) = σ6 at hσ2 s4 s7
      have R6 := hc5 _ _ hRd R4
      refine ⟨_, hσ2.g 2 (by decide) rfl, R, rfl, ⟨_, SqL.of R6⟩, fun D hD => ?_⟩
      have hpt6 : Paired (RowT H6) ts rs := Paired.mapP hpt4 fun t r q => q.chg hc5 d4n
      refine lc_pure (J := Itl _ R) (l := ts.zip rs) (fun z => V.ref z.1) (fun z => if goesR sp r z.2 = true then some (V.str z.2.name) else none) (wl (ts.zip rs) fun z => V.ref z.1) (fun _ e => sg R6 e) (by omega) hD ?_ ?_
      · rintro ⟨t2, r2⟩ H7 hm hs Qy Qn yy nn
        obtain ⟨x2, y2, p1, p2, p3⟩ := (paired_zip hpt6 hm).same hs
        have w4 : ((wipe σ6 [8]).set 8 (some (V.ref t2)))[4]? = some (some x) := by
          show ((σ6.set 8 none).set 8 (some (V.ref t2)))[4]? = _
          rw [List.set_set, List.getElem?_set_ne (by decide)]
          exact s4
        refine ⟨wipe1, _, w4, _, hσ2.s1, _, _, _, _, rfl, rfl, SqT.of p1, atI_nat (j := 2) rfl, _, (hσ2.w1 (by decide)).g 1 (by decide) rfl, (x, y2, sp, shIn r, shOut r2), rfl, ⟨q2.same hs, p3, few_in r, few_out r2⟩, fun v H8 hv => ?_⟩
        obtain ⟨e8, rfl⟩ := hv
        rw [goSh_rows]
        refine ⟨_, rfl, ite2 (fun c => ?_) (fun c => ?_)⟩
        · exact ⟨_, hσ2.s1, _, _, _, _, rfl, rfl, SqT.of (e8 _ _ p1), atI_nat (j := 0) rfl, yy _ _ (if_pos c) e8⟩
        · exact nn _ (if_neg c) e8
      intro H7 hs7 hD7
      have hfm : (ts.zip rs).filterMap (fun z => if goesR sp r z.2 = true then some (V.str z.2.name) else none) = ((rs.filter (goesR sp r)).map Row.name).map V.str := by
        conv => rhs; rw [← yz2]
        generalize ts.zip rs = zs
        induction zs with
        | nil => rfl
        | cons z zs ih =>
          rw [List.filterMap_cons, List.map_cons, List.filter_cons, ih]
          cases goesR sp r z.2
          · rfl
          · rfl
      rw [hfm] at hD7
      have hkl : kvs.length = ((outOf sp rs).take i).length := Paired.length hpk
      have nk : (Sum.inr r.name : Key) ∉ kvs.map (·.1) := by
        rw [paired_fst hpk]
        intro hm
        obtain ⟨p, hp, e⟩ := List.mem_map.mp hm
        have e' : p.1 = r.name := Sum.inr.inj e
        have : r.name ∈ (rs.take i).map Row.name := by
          unfold outOf at hp
          rw [← List.map_take] at hp
          obtain ⟨r', hr', e2⟩ := List.mem_map.mp hp
          rw [← e', ← e2]
          exact List.mem_map_of_mem hr'
        exact take_map_notin ok.nd hri this
      refine ⟨_, hσ2.g 6 (by decide) rfl, _, s7, d, _, rfl, DPut.k (k := Sum.inr r.name) (hs7 _ _ hkv) ?_, ?_⟩
      · rw [hkl, List.length_take]
        unfold outOf
        rw [List.length_map]
        have := ok.l12
        exact smallt _ (by omega)
      · rw [putK_end nk]
        refine ⟨Chg.upd (fun b o n e => hs7 _ _ (hc5 _ _ n e)) (List.mem_singleton_self d), hσ2, _, upd_same, ?_⟩
        have hoi : (outOf sp rs)[i]? = some (r.name, (rs.filter (goesR sp r)).map Row.name) := by
          unfold outOf
          rw [List.getElem?_map, hri]
          rfl
        rw [take_snoc hoi]
        have keep : ∀ l xs, H7 l = some (.lst xs) → upd H7 d (.dK (kvs ++ [((Sum.inr r.name : Key), V.ref D)])) l = some (.lst xs) := fun l xs h => by
          rw [upd_ne (ne_of h (hs7 _ _ hkv) (by intro z; cases z))]
          exact h
        refine paired_app (Paired.mapP hpk fun kv p ⟨a1, l1, a2, a3⟩ => ⟨a1, l1, a2, keep _ _ (hs7 _ _ a3)⟩) (.cons ⟨rfl, D, rfl, keep _ _ hD7⟩ .nil)
    · rintro σ6 H6 ⟨hc6, hσ6, ho⟩
      rw [List.take_of_length_le (by unfold outOf; rw [List.length_map, List.length_zip]; omega)] at ho
      exact ⟨_, hσ6.g 6 (by decide) rfl, k _ _ ⟨fun b o e => hc6 _ _ (hdn _ _ (e03 _ _ e)) (e4 _ _ (e03 _ _ e)), d, rfl, (by
        cases z : H0 d with
        | none => rfl
        | some u =>
          rw [e03 _ _ z] at hd
          cases hd), ho⟩⟩
end
end BX
end
section
set_option Elab.async false
set_option linter.all false
set_option maxRecDepth 100000
set_option maxHeartbeats 4000000
namespace BX
open PySem PySem.Spec PyProof.Rows L2
open C8 (Cal Mak Met pe_c pe_mk pe_mt pe_mt0 pe_gc)
/-! ### dicts read and put -/
section
variable {H : Hp} {a : Addr} {β : Type} {g : β → V} {l : List (Str × β)} {x : Str}
theorem dhas (h : H a = some (.dK (dmap g l))) (x : Str) : DGet H a (.str x) ((KM.look l x).map g) := by
  have := DGet.k (k := (Sum.inr x : Key)) h
  rw [valV_dmap] at this
  exact this
theorem dget (h : H a = some (.dK (dmap g l))) {b : β} (e : KM.look l x = some b) : DGet H a (.str x) (some (g b)) := by
  have := dhas h x
  rw [e] at this
  exact this
theorem dput (h : H a = some (.dK (dmap g l))) (hn : (l.map (·.1)).Nodup) (hl : l.length ≤ 1000) (x : Str) (v : β) : DPut H a (.str x) (g v) (upd H a (.dK (dmap g (KM.put l x v)))) := by
  have := DPut.k (k := (Sum.inr x : Key)) (v := g v) h (by unfold dmap; rw [List.length_map]; exact smallt _ (by omega))
  rw [putK_dmap g hn] at this
  exact this
theorem dout {o : List (Str × List Str)} (h : OutAt H a o) {ys : List Str} (e : KM.look o x = some ys) : ∃ l, DGet H a (.str x) (some (.ref l)) ∧ H l = some (.lst (ys.map V.str)) := by
  obtain ⟨kvs, h1, h2⟩ := h
  obtain ⟨l, q1, q2⟩ := paired_look h2 e
  refine ⟨l, ?_, q2⟩
  have := DGet.k (k := (Sum.inr x : Key)) h1
  rw [q1] at this
  exact this
end
/-- the tried ones as a dict's text -/
abbrev tm (t : List Str) : List (Str × Bool) := t.map fun x => (x, true)
theorem tm_keys (t : List Str) : (tm t).map (·.1) = t := by rw [List.map_map]; exact List.map_id'' (fun _ => rfl) _
theorem look_tm (t : List Str) (x : Str) : (KM.look (tm t) x).isSome = decide (x ∈ t) := by
  cases e : KM.look (tm t) x with
  | none =>
    rw [KM.look_none, tm_keys] at e
    exact (decide_eq_false e).symm
  | some b =>
    have := KM.mem_of_look e
    rw [tm_keys] at this
    exact (decide_eq_true this).symm
theorem put_tm {t : List Str} {x : Str} (h : x ∉ t) : KM.put (tm t) x true = tm (t ++ [x]) := by
  rw [KM.put_new _ (by rw [tm_keys]; exact h)]
  unfold tm
  rw [List.map_append]
  rfl
section
variable {rec : Str → KM.W Str → List Str → Bool × KM.W Str × List Str} {x o m : Str} {os t t2 : List Str} {w w2 : KM.W Str}
theorem growL_none (h : o ∉ t) (e : KM.look w o = none) : KM.growL rec x (o :: os) w t = (true, KM.put w o x, t ++ [o]) := by
  unfold KM.growL
  rw [if_neg h, e]
theorem growL_yes (h : o ∉ t) (e : KM.look w o = some m) (r : rec m w (t ++ [o]) = (true, w2, t2)) : KM.growL rec x (o :: os) w t = (true, KM.put w2 o x, t2) := by
  unfold KM.growL
  rw [if_neg h, e]
  simp only [r]
theorem growL_no (h : o ∉ t) (e : KM.look w o = some m) (r : rec m w (t ++ [o]) = (false, w2, t2)) : KM.growL rec x (o :: os) w t = KM.growL rec x os w2 t2 := by
  conv => lhs; unfold KM.growL
  rw [if_neg h, e]
  simp only [r]
end
/-- what goes out of each, by the table -/
def outT (o : List (Str × List Str)) (x : Str) : List Str := (KM.look o x).getD []
structure TabOk (o : List (Str × List Str)) : Prop where
  cl : ∀ x ys, KM.look o x = some ys → ∀ y ∈ ys, y ∈ o.map (·.1)
  l12 : o.length ≤ 12
  nd : (o.map (·.1)).Nodup
  o12 : ∀ x ys, KM.look o x = some ys → ys.length ≤ 12
structure WI (U : List Str) (w : KM.W Str) : Prop where
  nd : (w.map (·.1)).Nodup
  ks : ∀ x y, KM.look w x = some y → x ∈ U ∧ y ∈ U
theorem WI.len {U : List Str} {w : KM.W Str} (h : WI U w) : w.length ≤ U.length := by
  have := KM.nodup_len h.nd (U := U) fun o ho => by
    obtain ⟨v, hv⟩ := KM.look_mem ho
    exact (h.ks _ _ hv).1
  rw [List.length_map] at this
  exact this
theorem WI.put {U : List Str} {w : KM.W Str} (h : WI U w) {x y : Str} (hx : x ∈ U) (hy : y ∈ U) : WI U (KM.put w x y) := ⟨KM.put_nodup h.nd x y, fun a b e => by
  rw [KM.look_put] at e
  by_cases z : a = x
  · rw [if_pos z] at e
    cases e
    rw [z]
    exact ⟨hx, hy⟩
  · rw [if_neg z] at e
    exact h.ks _ _ e⟩
section
variable {P : Program} {w : World} {K : PySem.W.Frag} {mg : Str → Option Value} {base : Heap}
structure GIn (H : Hp) (d wd td : Addr) (o : List (Str × List Str)) (wm : KM.W Str) (t : List Str) : Prop where
  ot : OutAt H d o
  wa : H wd = some (.dK (dmap V.str wm))
  ta : H td = some (.dK (dmap V.bl (tm t)))
  n1 : d ≠ wd
  n2 : d ≠ td
  n3 : wd ≠ td
  wi : WI (o.map (·.1)) wm
  ti : KM.TI (o.map (·.1)) t
theorem OutAt.chg {H H' : Hp} {S : List Addr} {d : Addr} {o : List (Str × List Str)} (c : Chg S H H') (hd : d ∉ S) (hl : ∀ a ∈ S, ∀ xs, H a ≠ some (.lst xs)) (h : OutAt H d o) : OutAt H' d o := by
  obtain ⟨kvs, h1, h2⟩ := h
  exact ⟨kvs, c _ _ hd h1, Paired.mapP h2 fun kv p ⟨q1, l, q2, q3⟩ => ⟨q1, l, q2, c _ _ (fun z => hl _ z _ q3) q3⟩⟩
theorem not_lst2 {H : Hp} {a b : Addr} {x y : List (Key × V)} (h1 : H a = some (.dK x)) (h2 : H b = some (.dK y)) : ∀ c ∈ [a, b], ∀ xs, H c ≠ some (.lst xs) := fun c hc xs z => by
  rcases List.mem_cons.mp hc with e | e
  · rw [e, h1] at z
    cases z
  · rw [List.mem_singleton.mp e, h2] at z
    cases z
theorem not2 {d a b : Addr} (n1 : d ≠ a) (n2 : d ≠ b) : d ∉ [a, b] := fun z => by
  rcases List.mem_cons.mp z with e | e
  · exact n1 e
  · exact n2 (List.mem_singleton.mp e)
def spGrown (n : Nat) : Sp := SpG (G := Addr × Addr × Addr × List (Str × List Str) × Str × KM.W Str × List Str) (fun (d, wd, td, _, x, _, _) => [.ref d, .str x, .ref wd, .ref td]) (fun (d, wd, td, o, x, wm, t) H => GIn H d wd td o wm t ∧ TabOk o ∧ x ∈ o.map (·.1) ∧ o.length < n + t.length)
  (fun (d, wd, td, o, x, wm, t) H v H' => v = .bl (KM.grow (outT o) n x wm t).1 ∧ Chg [wd, td] H H' ∧ GIn H' d wd td o (KM.grow (outT o) n x wm t).2.1 (KM.grow (outT o) n x wm t).2.2)
theorem GIn.chg {H H' : Hp} {d wd td : Addr} {o : List (Str × List Str)} {wm wm' : KM.W Str} {t t' : List Str} (g : GIn H d wd td o wm t) (c : Chg [wd, td] H H')
    (ha : H' wd = some (.dK (dmap V.str wm'))) (hb : H' td = some (.dK (dmap V.bl (tm t')))) (wi : WI (o.map (·.1)) wm') (ti : KM.TI (o.map (·.1)) t') : GIn H' d wd td o wm' t' :=
  ⟨g.ot.chg c (not2 g.n1 g.n2) (not_lst2 g.wa g.ta), ha, hb, g.n1, g.n2, g.n3, wi, ti⟩
abbrev N_grown : List PySem.Str := ["outwards", "name", "within", "tried", "other"]
theorem sc_grown : FnScope N_grown ["outwards", "name", "within", "tried"] d_grown.scope := ⟨rfl, rfl, rfl, by decide +kernel, rfl, by decide +kernel, by decide +kernel⟩
theorem c_grown (T : TX K mg) : ∀ n, Cal P w K mg base (n + 1) "grown" (spGrown n) []
  | 0 => by
    refine calD T T.f_grown rfl T.g_grown (bindsN rfl fun _ _ _ _ _ _ us hl => match us, hl with | [_, _, _, _], _ => rfl) sc_grown (fun _ => rfl) fun cdv A outer s0 H Q E f g hr hp k => ?_
    obtain ⟨d, wd, td, o, x, wm, t⟩ := g
    obtain ⟨hg, ok, hx, hn⟩ := hp
    exfalso
    have := hg.ti.len
    rw [List.length_map] at this
    omega
  | n + 1 => by
    have ih := c_grown T n
    refine calD T T.f_grown rfl T.g_grown (bindsN rfl fun _ _ _ _ _ _ us hl => match us, hl with | [_, _, _, _], _ => rfl) sc_grown (fun _ => rfl) fun cdv A outer s0 H Q E f g hr hp k => ?_
    obtain ⟨d, wd, td, o, x, wm, t⟩ := g
    obtain ⟨hg, ok, hx, hn⟩ := hp
    obtain ⟨ys, hys⟩ := KM.look_mem hx
    obtain ⟨lo, hlo, hlo2⟩ := dout hg.ot hys
    have hox : outT o x = ys := by
      unfold outT
      rw [hys]
      rfl
    refine ⟨_, (pss_cons (ps_for PassesOwn.never rfl (pi_listK K rfl (pe_dget (hu_of hr) (pv 0) (pv 1) (fun _ _ => rfl))) (pg_name (i := 4) sc_grown.nd rfl (Or.inl rfl)) (pss_one (ps_if (pt_cmp (pc_dnotin (hu_of hr) (pv 4) (pv 3)) rfl) (pss_cons (ps_dput (hu_of hr) (pv 3) (pv 4) pe_bl rfl)
        (pss_one (ps_if (PW.pt (pw_or (pt_cmp (pc_dnotin (hu_of hr) (pv 4) (pv 2)) rfl) (pw_or1 (pt_val (pe_c ih hr (Nat.le_refl _) rfl (pa_cons (pv 0) (pa_cons (pe_dget (hu_of hr) (pv 2) (pv 4) (fun _ _ => rfl)) (pa_cons (pv 2) (pa_cons (pv 3) pa_nil))))))))) (pss_cons (ps_dput (hu_of hr) (pv 2) (pv 4) (pv 1) rfl)
          (pss_one (ps_ret pe_bl))) pss_nil))) pss_nil)))
    (pss_one (ps_ret pe_bl))), ?_⟩
    refine ⟨_, rfl, _, rfl, d, _, rfl, hlo, lo, rfl, ⟨_, SqL.of hlo2⟩, ?_⟩
    refine for_it (wl (K := K) (a := lo) ys V.str) (fun i σ H' => Chg [wd, td] H H' ∧ Sl [4] (L2.start N_grown [V.ref d, .str x, .ref wd, .ref td]) σ ∧ ∃ wi ti, GIn H' d wd td o wi ti ∧ KM.growL (KM.grow (outT o) n) x ys wm t = KM.growL (KM.grow (outT o) n) x (ys.drop i) wi ti ∧ t.length ≤ ti.length)
      ⟨Chg.refl, Sl.refl, wm, t, hg, rfl, Nat.le_refl _⟩ (fun i σ H' _ h => SqL.of (h.1 _ _ (fun z => not_lst2 hg.wa hg.ta _ z _ hlo2) hlo2)) ?_ ?_
    · rintro i v σ H1 H2 hi ⟨hc, hσ, wi, ti, hgi, he, htl⟩ ⟨hH, y, hy, rfl⟩
      subst hH
      have hyo : y ∈ o.map (·.1) := ok.cl x ys hys y (List.mem_of_getElem? hy)
      have hdr : ys.drop i = y :: ys.drop (i + 1) := by
        have hl := (List.getElem?_eq_some_iff.mp hy)
        obtain ⟨h1, h2⟩ := hl
        rw [List.drop_eq_getElem_cons h1, h2]
      have hσ2 : Sl [4] _ (σ.set 4 (some (.str y))) := hσ.set (by decide)
      have s4 : (σ.set 4 (some (.str y)))[4]? = some (some (.str y)) := hσ.s
      refine ⟨_, s4, _, hσ2.g 3 (by decide) rfl, td, _, rfl, dhas hgi.ta y, _, rfl, ?_⟩
      rw [Option.isSome_map, look_tm]
      rw [hdr] at he
      by_cases hyt : y ∈ ti
      · rw [decide_eq_true hyt]
        refine iteF ⟨hc, hσ2, wi, ti, hgi, ?_, htl⟩
        rw [he]
        show (if y ∈ ti then _ else _) = _
        rw [if_pos hyt]
      · rw [decide_eq_false hyt]
        refine iteT ?_
        have htil : ti.length ≤ 12 := by
          have := hgi.ti.len
          rw [List.length_map] at this
          have := ok.l12
          omega
        refine ⟨_, hσ2.g 3 (by decide) rfl, _, s4, td, _, rfl, dput hgi.ta (by rw [tm_keys]; exact hgi.ti.nd) (by rw [List.length_map]; omega) y true, ?_⟩
        rw [put_tm hyt]
        have hg2 : GIn (upd H2 td (.dK (dmap V.bl (tm (ti ++ [y]))))) d wd td o wi (ti ++ [y]) :=
          hgi.chg (Chg.upd Chg.refl (by simp)) (by rw [upd_ne hgi.n3]; exact hgi.wa) upd_same hgi.wi (hgi.ti.snoc hyo hyt)
        have hc2 : Chg [wd, td] H (upd H2 td (.dK (dmap V.bl (tm (ti ++ [y]))))) := Chg.upd hc (by simp)
        generalize upd H2 td (.dK (dmap V.bl (tm (ti ++ [y])))) = H3 at hg2 hc2
        refine ⟨_, s4, _, hσ2.g 2 (by decide) rfl, wd, _, rfl, dhas hg2.wa y, _, rfl, ?_⟩
        have fin : ∀ (w3 : KM.W Str) (t3 : List Str) (H4 : Hp), Chg [wd, td] H H4 → GIn H4 d wd td o w3 t3 → KM.growL (KM.grow (outT o) n) x ys wm t = (true, KM.put w3 y x, t3) →
            DPut H4 wd (.str y) (.str x) (upd H4 wd (.dK (dmap V.str (KM.put w3 y x)))) ∧ Q (.bl true) (upd H4 wd (.dK (dmap V.str (KM.put w3 y x)))) := by
          intro w3 t3 H4 c4 g4 e4
          have hw := g4.wi.len
          rw [List.length_map] at hw
          have := ok.l12
          refine ⟨dput g4.wa g4.wi.nd (by omega) y x, k _ _ ?_⟩
          show _ = V.bl (KM.growL (KM.grow (outT o) n) x (outT o x) wm t).1 ∧ _ ∧ GIn _ d wd td o (KM.growL (KM.grow (outT o) n) x (outT o x) wm t).2.1 (KM.growL (KM.grow (outT o) n) x (outT o x) wm t).2.2
          rw [hox, e4]
          exact ⟨rfl, Chg.upd c4 (by simp), g4.chg (Chg.upd Chg.refl (by simp)) upd_same (by rw [upd_ne g4.n3.symm]; exact g4.ta) (g4.wi.put hyo hx) g4.ti⟩
        rw [Option.isSome_map]
        cases hl : KM.look wi y with
        | none =>
          have he2 := he.trans (growL_none hyt hl)
          refine iteT (iteT ?_)
          obtain ⟨q1, q2⟩ := fin wi (ti ++ [y]) H3 hc2 hg2 he2
          exact ⟨_, hσ2.g 1 (by decide) rfl, _, hσ2.g 2 (by decide) rfl, _, s4, wd, _, rfl, q1, q2⟩
        | some m =>
          refine iteF ?_
          refine ⟨_, hσ2.g 0 (by decide) rfl, _, hσ2.g 2 (by decide) rfl, _, s4, wd, _, rfl, dget hg2.wa hl, _, hσ2.g 2 (by decide) rfl, _, hσ2.g 3 (by decide) rfl, (d, wd, td, o, m, wi, ti ++ [y]), rfl, ⟨hg2, ok, (hgi.wi.ks _ _ hl).2, ?_⟩, fun v H4 hv => ?_⟩
          · rw [List.length_append]
            show _ < n + (ti.length + 1)
            omega
          obtain ⟨rfl, c4, g4⟩ := hv
          have c04 : Chg [wd, td] H H4 := Chg.trans hc2 c4
          have good := KM.grow_good (out := outT o) (U := o.map (·.1)) (fun m z hz => by
            unfold outT at hz
            cases hm : KM.look o m with
            | none =>
              rw [hm] at hz
              cases hz
            | some zs =>
              rw [hm] at hz
              exact ok.cl m zs hm z hz) n m wi (ti ++ [y]) hg2.ti (by
            rw [List.length_map, List.length_append]
            show _ < n + (ti.length + 1)
            omega)
          have hmo : ti.length ≤ (KM.grow (outT o) n m wi (ti ++ [y])).2.2.length := by
            have := KM.nodup_len hg2.ti.nd good.mo
            rw [List.length_append] at this
            omega
          cases hr2 : KM.grow (outT o) n m wi (ti ++ [y]) with
          | mk b r2 =>
          obtain ⟨w2, t2⟩ := r2
          rw [hr2] at g4 hmo
          refine ⟨_, rfl, ?_⟩
          cases b with
          | true =>
            refine iteT ?_
            obtain ⟨q1, q2⟩ := fin w2 t2 H4 c04 g4 (he.trans (growL_yes hyt hl hr2))
            exact ⟨_, hσ2.g 1 (by decide) rfl, _, hσ2.g 2 (by decide) rfl, _, s4, wd, _, rfl, q1, q2⟩
          | false =>
            exact iteF ⟨c04, hσ2, w2, t2, g4, he.trans (growL_no hyt hl hr2), Nat.le_trans htl hmo⟩
    · rintro σ H1 ⟨hc, hσ, wi, ti, hgi, he, htl⟩
      rw [List.drop_length] at he
      refine k _ _ ?_
      show _ = V.bl (KM.growL (KM.grow (outT o) n) x (outT o x) wm t).1 ∧ _ ∧ GIn _ d wd td o (KM.growL (KM.grow (outT o) n) x (outT o x) wm t).2.1 (KM.growL (KM.grow (outT o) n) x (outT o x) wm t).2.2
      rw [hox, he]
      exact ⟨rfl, hc, hgi⟩
end
end BX
end
section
set_option Elab.async false
set_option linter.all false
set_option maxRecDepth 100000
set_option maxHeartbeats 4000000
namespace BX
open PySem PySem.Spec PyProof.Rows L2
open C8 (Cal Mak Met pe_c pe_mk pe_mt pe_mt0 pe_gc)
/-! ### lists as data -/
section
variable {K : PySem.W.Frag} {H : Hp}
theorem dp_strsA : ∀ xs : List Str, DpAll K H (xs.map V.str) (xs.map PyData.str)
  | [] => .nil
  | x :: xs => .cons (.str x) (dp_strsA xs)
theorem dp_intsA : ∀ xs : List Int, DpAll K H (xs.map V.int) (xs.map PyData.int)
  | [] => .nil
  | x :: xs => .cons (.int x) (dp_intsA xs)
theorem dp_strs {a : Addr} {xs : List Str} (h : H a = some (.lst (xs.map V.str))) : Dp K H (.ref a) (.list (xs.map PyData.str)) := .lst (SqL.of h) (dp_strsA xs)
theorem dp_ints {a : Addr} {xs : List Int} (h : H a = some (.lst (xs.map V.int))) : Dp K H (.ref a) (.list (xs.map PyData.int)) := .lst (SqL.of h) (dp_intsA xs)
end
def SOk (x : Str) : Prop := PyData.canLay0 (.str x) = true
theorem can_all {α : Type} {f : α → PyData} : ∀ {l : List α}, (∀ z ∈ l, (f z).canLay0 = true) → PyData.canLayAll0 (l.map f) = true
  | [], _ => rfl
  | z :: l, h => by
    show ((f z).canLay0 && PyData.canLayAll0 (l.map f)) = true
    rw [h z List.mem_cons_self, can_all fun y hy => h y (List.mem_cons_of_mem z hy)]
    rfl
theorem sh_strs {xs : List Str} (h : ∀ x ∈ xs, SOk x) : SeqAt.shaped (.list (xs.map PyData.str)) = true := by
  unfold SeqAt.shaped
  have a : PyData.canLay0 (.list (xs.map PyData.str)) = true := by
    unfold PyData.canLay0
    exact can_all h
  have b : PyData.depth (.list (xs.map PyData.str)) ≤ 64 := by
    have := depthAll_map PyData.str 0 xs fun x _ => by simp only [PyData.depth]; omega
    simp only [PyData.depth]
    omega
  rw [a, decide_eq_true b]
  rfl
theorem sh_ints {xs : List Int} : SeqAt.shaped (.list (xs.map PyData.int)) = true := by
  unfold SeqAt.shaped
  have a : PyData.canLay0 (.list (xs.map PyData.int)) = true := by
    unfold PyData.canLay0
    exact can_all fun z _ => by simp only [PyData.canLay0]
  have b : PyData.depth (.list (xs.map PyData.int)) ≤ 64 := by
    have := depthAll_map PyData.int 0 xs fun x _ => by simp only [PyData.depth]; omega
    simp only [PyData.depth]
    omega
  rw [a, decide_eq_true b]
  rfl
theorem eqv_nil (ds : List PyData) : PyData.eqv (.list ds) (.list []) = ds.isEmpty := by
  cases ds with
  | nil => simp [PyData.eqv, PyData.eqvAll]
  | cons d ds => simp [PyData.eqv, PyData.eqvAll]
theorem eqv_strs : ∀ (xs ys : List Str), PyData.eqvAll (xs.map PyData.str) (ys.map PyData.str) = decide (xs = ys)
  | [], [] => by simp [PyData.eqvAll]
  | [], _ :: _ => by simp [PyData.eqvAll]
  | _ :: _, [] => by simp [PyData.eqvAll]
  | x :: xs, y :: ys => by
    simp only [List.map_cons, PyData.eqvAll, PyData.eqv, eqv_strs xs ys]
    by_cases h1 : x = y <;> by_cases h2 : xs = ys <;> simp [h1, h2]
end BX
end
section
set_option Elab.async false
set_option linter.all false
set_option maxRecDepth 100000
set_option maxHeartbeats 4000000
namespace BX
open PySem PySem.Spec PyProof.Rows L2
open C8 (Cal Mak Met pe_c pe_mk pe_mt pe_mt0 pe_gc)
/-! ### the mirrors -/
/-- a matching grown name by name -/
def matchM (out : Str → List Str) (names : List Str) : KM.W Str := names.foldl (fun w x => (KM.grow out 13 x w []).2.1) []
def wVal (w : KM.W Str) (z : Str) : Str := (KM.look w z).getD ""
structure RS where
  ones : List Str
  others : List Str
  waiting : List Str
def rStep (w : KM.W Str) (r : RS) (z : Str) : RS := if z ∈ r.others then r else ⟨r.ones ++ [wVal w z], r.others ++ [z], r.waiting ++ [wVal w z]⟩
def rGo (out : Str → List Str) (w : KM.W Str) : Nat → RS → RS
  | 0, r => r
  | n + 1, r => match r.waiting.getLast? with
    | none => r
    | some y => rGo out w n ((out y).foldl (rStep w) ⟨r.ones, r.others, r.waiting.dropLast⟩)
def onesOf (w : KM.W Str) (names : List Str) : List Str := names.filter fun x => decide (x ∉ w.map (·.2))
def reachM (out : Str → List Str) (names : List Str) (w : KM.W Str) : RS := rGo out w 60 ⟨onesOf w names, [], onesOf w names⟩
section
variable {P : Program} {w : World} {K : PySem.W.Frag} {mg : Str → Option Value} {base : Heap}
theorem matchM_snoc (out : Str → List Str) (names : List Str) (x : Str) : matchM out (names ++ [x]) = (KM.grow out 13 x (matchM out names) []).2.1 := by
  unfold matchM
  rw [List.foldl_append]
  rfl
def spMatched : Sp := SpG (G := Addr × Addr × List (Str × List Str) × List Str) (fun (d, l, _, _) => [.ref d, .ref l]) (fun (d, l, o, ns) H => OutAt H d o ∧ TabOk o ∧ H l = some (.lst (ns.map V.str)) ∧ ∀ x ∈ ns, x ∈ o.map (·.1))
  (fun (d, l, o, ns) H v H' => Same H H' ∧ ∃ wd, v = .ref wd ∧ H wd = none ∧ H' wd = some (.dK (dmap V.str (matchM (outT o) ns))) ∧ WI (o.map (·.1)) (matchM (outT o) ns))
abbrev N_matched : List PySem.Str := ["outwards", "names", "within", "name"]
theorem sc_matched : FnScope N_matched ["outwards", "names"] d_matched.scope := ⟨rfl, rfl, rfl, by decide +kernel, rfl, by decide +kernel, by decide +kernel⟩
theorem c_matched (T : TX K mg) : Cal P w K mg base 15 "matched" spMatched [] := by
  refine calD T T.f_matched rfl T.g_matched (bindsN rfl fun _ _ _ _ _ _ us hl => match us, hl with | [_, _], _ => rfl) sc_matched (fun _ => rfl) fun cdv A outer s0 H Q E f g hr hp k => ?_
  obtain ⟨d, l, o, ns⟩ := g
  obtain ⟨ho, ok, hl, hns⟩ := hp
  refine ⟨_, (pss_cons (ps_set (i := 2) sc_matched.nd rfl (Or.inl rfl) pe_dnewK)
    (pss_cons (ps_for PassesOwn.never rfl (pi_listK K rfl (pv 1)) (pg_name (i := 3) sc_matched.nd rfl (Or.inl rfl)) (pss_one (ps_expr (pe_c (c_grown T 13) hr (by decide) rfl (pa_cons (pv 0) (pa_cons (pv 3) (pa_cons (pv 2) (pa_cons pe_dnewK pa_nil))))))))
    (pss_one (ps_ret (pv 2))))), ?_⟩
  refine fun wd hwd => ?_
  have e1 : Same H (upd H wd (.dK [])) := same_new hwd _
  have w1 : upd H wd (.dK []) wd = some (.dK []) := upd_same
  generalize upd H wd (.dK []) = H1 at e1 w1
  have nw : ∀ b o, H b = some o → b ≠ wd := fun b o e => ne_of_none e hwd
  have ho1 := ho.same e1
  have hl1 := e1 _ _ hl
  have dn : d ≠ wd := by
    obtain ⟨kvs, q, _⟩ := ho
    exact nw _ _ q
  have keep : ∀ H2, Chg [wd] H1 H2 → Same H H2 := fun H2 c b u e => c _ _ (fun z => nw _ _ e (List.mem_singleton.mp z)) (e1 _ _ e)
  refine ⟨_, rfl, l, rfl, ⟨_, SqL.of hl1⟩, ?_⟩
  refine for_it (wl (K := K) (a := l) ns V.str) (fun i σ H' => Chg [wd] H1 H' ∧ Sl [3] ((L2.start N_matched [V.ref d, .ref l]).set 2 (some (.ref wd))) σ ∧ H' wd = some (.dK (dmap V.str (matchM (outT o) (ns.take i)))) ∧ WI (o.map (·.1)) (matchM (outT o) (ns.take i)))
    ⟨Chg.refl, Sl.refl, w1, by show ([] : List Str).Nodup; exact .nil, fun _ _ e => by cases e⟩ (fun i σ H' _ h => SqL.of (keep _ h.1 _ _ hl)) ?_ ?_
  · rintro i v σ H2 H3 hi ⟨hc, hσ, hw, hwi⟩ ⟨hH, x, hx, rfl⟩
    subst hH
    have hxo : x ∈ o.map (·.1) := hns x (List.mem_of_getElem? hx)
    have hσ2 : Sl [3] _ (σ.set 3 (some (.str x))) := hσ.set (by decide)
    refine ⟨_, hσ2.g 0 (by decide) rfl, _, hσ.s, _, hσ2.g 2 (by decide) rfl, fun td htd => ?_⟩
    have e4 : Same H3 (upd H3 td (.dK [])) := same_new htd _
    have t4 : upd H3 td (.dK []) td = some (.dK []) := upd_same
    generalize upd H3 td (.dK []) = H4 at e4 t4
    have ho4 : OutAt H4 d o := (ho.same (keep _ hc)).same e4
    have n2 : d ≠ td := by
      obtain ⟨kvs, q, _⟩ := ho.same (keep _ hc)
      exact ne_of_none q htd
    refine ⟨(d, wd, td, o, x, matchM (outT o) (ns.take i), []), rfl, ⟨⟨ho4, e4 _ _ hw, t4, dn, n2, ne_of_none hw htd, hwi, .nil, fun _ h => by cases h⟩, ok, hxo, ?_⟩, fun v H5 hv => ?_⟩
    · have := ok.l12
      show o.length < 13 + 0
      omega
    obtain ⟨rfl, c5, g5⟩ := hv
    rw [take_snoc hx, matchM_snoc]
    refine ⟨fun b u n e => ?_, hσ2, g5.wa, g5.wi⟩
    have q := hc _ _ n e
    exact c5 _ _ (not2 (fun z => n (by rw [z]; exact List.mem_singleton_self _)) (ne_of_none q htd)) (e4 _ _ q)
  · rintro σ H2 ⟨hc, hσ, hw, hwi⟩
    rw [List.take_length] at hw hwi
    exact ⟨_, hσ.g 2 (by decide) rfl, k _ _ ⟨keep _ hc, wd, rfl, hwd, hw, hwi⟩⟩
end
end BX
end
section
set_option Elab.async false
set_option linter.all false
set_option maxRecDepth 100000
set_option maxHeartbeats 4000000
namespace BX
open PySem PySem.Spec PyProof.Rows L2
open C8 (Cal Mak Met pe_c pe_mk pe_mt pe_mt0 pe_gc)
theorem fm_if {α β : Type} (p : α → Prop) [DecidablePred p] (f : α → β) : ∀ l : List α, l.filterMap (fun x => if p x then some (f x) else none) = (l.filter (fun x => decide (p x))).map f
  | [] => rfl
  | z :: zs => by
    rw [List.filterMap_cons, List.filter_cons, fm_if p f zs]
    by_cases hm : p z
    · rw [if_pos hm, decide_eq_true hm]
      rfl
    · rw [if_neg hm, decide_eq_false hm]
      rfl
theorem douts {H : Hp} {a : Addr} {x : Str} {o : List (Str × List Str)} (h : OutAt H a o) {ys : List Str} (e : KM.look o x = some ys) : ∃ l, H l = some (.lst (ys.map V.str)) ∧ ∀ H', Same H H' → DGet H' a (.str x) (some (.ref l)) := by
  obtain ⟨kvs, h1, h2⟩ := h
  obtain ⟨l, q1, q2⟩ := paired_look h2 e
  refine ⟨l, q2, fun H' s => ?_⟩
  have := DGet.k (k := (Sum.inr x : Key)) (s _ _ h1)
  rw [q1] at this
  exact this
/-! ### what the reaching keeps -/
structure RInv (out : Str → List Str) (U : List Str) (w : KM.W Str) (S : List Str) (r : RS) : Prop where
  nd : r.others.Nodup
  sub : ∀ z ∈ r.others, z ∈ S
  wait : ∀ y ∈ r.waiting, y ∈ U ∧ ∀ z ∈ out y, z ∈ S
  one : ∀ y ∈ r.ones, y ∈ U
def rMu (U : List Str) (r : RS) : Nat := 2 * (U.length - r.others.length) + r.waiting.length
section
variable {out : Str → List Str} {U S : List Str} {w : KM.W Str} {r : RS}
theorem closed_sub (hw : WI U w) (hS : KM.Closed out w S) : ∀ z ∈ S, z ∈ U := fun z hz => by
  obtain ⟨m, hm, _⟩ := hS z hz
  exact (hw.ks _ _ hm).1
theorem RInv.len (h : RInv out U w S r) (hw : WI U w) (hS : KM.Closed out w S) : r.others.length ≤ U.length := KM.nodup_len h.nd fun z hz => closed_sub hw hS z (h.sub z hz)
theorem RInv.step (h : RInv out U w S r) (hw : WI U w) (hS : KM.Closed out w S) {z : Str} (hz : z ∈ S) : RInv out U w S (rStep w r z) ∧ rMu U (rStep w r z) ≤ rMu U r := by
  unfold rStep
  by_cases hm : z ∈ r.others
  · rw [if_pos hm]
    exact ⟨h, Nat.le_refl _⟩
  · rw [if_neg hm]
    obtain ⟨m, e, hc⟩ := hS z hz
    have ev : wVal w z = m := by
      unfold wVal
      rw [e]
      rfl
    rw [ev]
    have hmU := (hw.ks _ _ e).2
    have i2 : RInv out U w S ⟨r.ones ++ [m], r.others ++ [z], r.waiting ++ [m]⟩ := by
      refine ⟨?_, fun y hy => ?_, fun y hy => ?_, fun y hy => ?_⟩
      · rw [List.nodup_append]
        refine ⟨h.nd, by simp, fun a ha b hb => ?_⟩
        rw [List.mem_singleton.mp hb]
        exact fun q => hm (q ▸ ha)
      · rcases List.mem_append.mp hy with q | q
        · exact h.sub y q
        · rw [List.mem_singleton.mp q]
          exact hz
      · rcases List.mem_append.mp hy with q | q
        · exact h.wait y q
        · rw [List.mem_singleton.mp q]
          exact ⟨hmU, hc⟩
      · rcases List.mem_append.mp hy with q | q
        · exact h.one y q
        · rw [List.mem_singleton.mp q]
          exact hmU
    refine ⟨i2, ?_⟩
    have := i2.len hw hS
    unfold rMu
    rw [List.length_append] at this
    rw [List.length_append, List.length_append]
    simp only [List.length_singleton] at this ⊢
    omega
theorem rGo_pop {n : Nat} {y : Str} (h : r.waiting.getLast? = some y) : rGo out w (n + 1) r = rGo out w n ((out y).foldl (rStep w) ⟨r.ones, r.others, r.waiting.dropLast⟩) := by
  conv => lhs; unfold rGo
  rw [h]
theorem rGo_end {n : Nat} (h : r.waiting = []) : rGo out w (n + 1) r = r := by
  conv => lhs; unfold rGo
  rw [h]
  rfl
end
section
variable {P : Program} {w : World} {K : PySem.W.Frag} {mg : Str → Option Value} {base : Heap}
theorem not3 {d a b c : Addr} (n1 : d ≠ a) (n2 : d ≠ b) (n3 : d ≠ c) : d ∉ [a, b, c] := fun z => by
  rcases List.mem_cons.mp z with e | e
  · exact n1 e
  · exact not2 n2 n3 e
def spReached : Sp := SpG (G := Addr × Addr × Addr × List (Str × List Str) × List Str × KM.W Str × List Str) (fun (d, l, wd, _, _, _, _) => [.ref d, .ref l, .ref wd])
  (fun (d, l, wd, o, ns, wm, S) H => OutAt H d o ∧ TabOk o ∧ (∀ x ∈ o.map (·.1), SOk x) ∧ H l = some (.lst (ns.map V.str)) ∧ (∀ x ∈ ns, x ∈ o.map (·.1)) ∧ ns.length ≤ 12 ∧ H wd = some (.dK (dmap V.str wm)) ∧ WI (o.map (·.1)) wm ∧ KM.Closed (outT o) wm S ∧ ∀ x ∈ onesOf wm ns, ∀ y ∈ outT o x, y ∈ S)
  (fun (d, l, wd, o, ns, wm, S) H v H' => Same H H' ∧ ∃ t l1 l2, v = .ref t ∧ H' t = some (.tup [.ref l1, .ref l2]) ∧ H' l1 = some (.lst ((reachM (outT o) ns wm).ones.map V.str)) ∧ H' l2 = some (.lst ((reachM (outT o) ns wm).others.map V.str)) ∧ RInv (outT o) (o.map (·.1)) wm S (reachM (outT o) ns wm))
abbrev N_reached : List PySem.Str := ["outwards", "names", "within", "inner", "ones", "others", "waiting", "other", "name"]
theorem sc_reached : FnScope N_reached ["outwards", "names", "within"] d_reached.scope := ⟨rfl, rfl, rfl, by decide +kernel, rfl, by decide +kernel, by decide +kernel⟩
theorem c_reached (T : TX K mg) : Cal P w K mg base 1 "reached" spReached [] := by
  refine calD T T.f_reached rfl T.g_reached (bindsN rfl fun _ _ _ _ _ _ us hl => match us, hl with | [_, _, _], _ => rfl) sc_reached (fun _ => rfl) fun cdv A outer s0 H Q E f g hr hp k => ?_
  obtain ⟨d, l, wd, o, ns, wm, S⟩ := g
  obtain ⟨ho, ok, sk, hl, hns, h12, hwd, hwi, hS, hdead⟩ := hp
  refine ⟨_, (pss_cons (ps_set (i := 3) sc_reached.nd rfl (Or.inr rfl) (pe_listVals rfl rfl T.n_list b_list (pv 2)))
    (pss_cons (ps_setLc (i := 4) (own := [("name", 8)]) rfl sc_reached.nd rfl rfl (sw_true rfl rfl rfl (by decide +kernel)) (pi_listK K rfl (pv 1)) (blkOk_by (own := [("name", 8)]) (N := N_reached) (sc := d_reached.scope) (by decide +kernel)) (fun _ _ _ _ _ => (pg_name (i := 8) sc_reached.nd rfl (Or.inl rfl))) (fun _ _ _ _ _ => (pts_one (pt_cmpR (op_notInK K rfl) (pv 8) (pv 3) rfl))) (fun _ _ _ _ _ => (pv 8)))
    (pss_cons (ps_set (i := 5) sc_reached.nd rfl (Or.inl rfl) (pe_lst pa_nil))
    (pss_cons (ps_set (i := 6) sc_reached.nd rfl (Or.inl rfl) (pe_callTy (call_list_of) rfl T.n_list b_list (pa_cons (pv 4) pa_nil)))
    (pss_cons (ps_while PassesOwn.never (pt_cmpR (op_neDK K rfl hr.units) (pv 6) (pe_lst pa_nil) (nomark _)) (pss_one (ps_for PassesOwn.never rfl (pi_listK K rfl (pe_dget (hu_of hr) (pv 0) (pe_bm0 PySem.F.plainAttrs_list PySem.F.slot_list_pop PySem.F.type_list_pop mt_pop (pv 6)) (fun _ _ => rfl))) (pg_name (i := 7) sc_reached.nd rfl (Or.inl rfl)) (pss_one (ps_if (pt_cmpR (op_notInK K rfl) (pv 7) (pv 5) rfl) (pss_cons (ps_expr (pe_bm PySem.F.plainAttrs_list PySem.F.slot_list_append PySem.F.type_list_append mt_append (pv 5) (pa_cons (pv 7) pa_nil)))
          (pss_cons (ps_expr (pe_bm PySem.F.plainAttrs_list PySem.F.slot_list_append PySem.F.type_list_append mt_append (pv 4) (pa_cons (pe_dget (hu_of hr) (pv 2) (pv 7) (fun _ _ => rfl)) pa_nil)))
          (pss_one (ps_expr (pe_bm PySem.F.plainAttrs_list PySem.F.slot_list_append PySem.F.type_list_append mt_append (pv 6) (pa_cons (pe_dget (hu_of hr) (pv 2) (pv 7) (fun _ _ => rfl)) pa_nil)))))) pss_nil)))))
    (pss_one (ps_ret (pe_tup (pa_cons (pv 4) (pa_cons (pv 5) pa_nil)))))))))), ?_⟩
  refine ⟨_, rfl, wd, _, rfl, hwd, fun li hli => ?_⟩
  have ev : (dmap V.str wm).map (·.2) = (wm.map (·.2)).map V.str := by
    unfold dmap
    rw [List.map_map, List.map_map]
    rfl
  rw [ev]
  have e1 : Same H (upd H li (.lst ((wm.map (·.2)).map V.str))) := same_new hli _
  have i1 : upd H li (.lst ((wm.map (·.2)).map V.str)) li = _ := upd_same
  generalize upd H li (.lst ((wm.map (·.2)).map V.str)) = H1 at e1 i1
  refine ⟨_, rfl, l, rfl, ⟨_, SqL.of (e1 _ _ hl)⟩, fun l1 hl1 => ?_⟩
  refine lc_pure (J := Itl _ l) (l := ns) V.str (fun x => if x ∉ wm.map (·.2) then some (V.str x) else none) (wl ns V.str) (fun _ e => sg (e1 _ _ hl) e) (by omega) hl1 ?_ ?_
  · intro x H' hx hs Qy Qn y n
    refine ⟨rfl, _, rfl, _, rfl, li, _, rfl, .inl (SqL.of (hs _ _ i1)), rfl, flat_strs _, _, rfl, ?_⟩
    rw [if_pos rfl, inV_str]
    by_cases hm : x ∈ wm.map (·.2)
    · rw [decide_eq_true hm]
      exact iteF (n _ (if_neg (fun z => z hm)) fun _ _ h => h)
    · rw [decide_eq_false hm]
      exact iteT ⟨_, rfl, y _ _ (if_pos hm) fun _ _ h => h⟩
  intro H2 e2 hD2
  have hfm : ns.filterMap (fun x => if x ∉ wm.map (·.2) then some (V.str x) else none) = (onesOf wm ns).map V.str := fm_if _ _ _
  rw [hfm] at hD2
  have e02 : Same H H2 := fun b u e => e2 _ _ (e1 _ _ e)
  refine ⟨small 0 (by decide), fun l2 hl2 => ?_⟩
  have e3 : Same H2 (upd H2 l2 (.lst [])) := same_new hl2 _
  have i3 : upd H2 l2 (.lst []) l2 = _ := upd_same
  generalize upd H2 l2 (.lst []) = H3 at e3 i3
  refine ⟨_, rfl, l1, _, rfl, .inl (SqL.of (e3 _ _ hD2)), fun l3 hl3 => ?_⟩
  have e4 : Same H3 (upd H3 l3 (.lst ((onesOf wm ns).map V.str))) := same_new hl3 _
  have i4 : upd H3 l3 (.lst ((onesOf wm ns).map V.str)) l3 = _ := upd_same
  generalize upd H3 l3 (.lst ((onesOf wm ns).map V.str)) = H4 at e4 i4
  have n12 : l1 ≠ l2 := ne_of_none hD2 hl2
  have n13 : l1 ≠ l3 := ne_of_none (e3 _ _ hD2) hl3
  have n23 : l2 ≠ l3 := ne_of_none i3 hl3
  have e04 : Same H H4 := fun b u e => e4 _ _ (e3 _ _ (e02 _ _ e))
  have old : ∀ b u, H b = some u → b ∉ [l1, l2, l3] := fun b u e => not3 (ne_of_none (e1 _ _ e) hl1) (ne_of_none (e02 _ _ e) hl2) (ne_of_none (e3 _ _ (e02 _ _ e)) hl3)
  have keep : ∀ H', Chg [l1, l2, l3] H4 H' → Same H H' := fun H' c b u e => c _ _ (old _ _ e) (e04 _ _ e)
  have hU12 : (o.map (·.1)).length ≤ 12 := by
    rw [List.length_map]
    exact ok.l12
  have h1U : ∀ x ∈ onesOf wm ns, x ∈ o.map (·.1) := fun x hx => hns x (List.mem_filter.mp hx).1
  have r0 : RInv (outT o) (o.map (·.1)) wm S ⟨onesOf wm ns, [], onesOf wm ns⟩ := ⟨.nil, (fun _ h => by cases h), fun y hy => ⟨h1U y hy, hdead y hy⟩, h1U⟩
  have hl1n : (onesOf wm ns).length ≤ 12 := Nat.le_trans (List.length_filter_le _ _) h12
  let σ0 : L2.St := ((((L2.start N_reached [V.ref d, .ref l, .ref wd]).set 3 (some (.ref li))).set 4 (some (.ref l1))).set 5 (some (.ref l2))).set 6 (some (.ref l3))
  refine ⟨fun m σ H' => Chg [l1, l2, l3] H4 H' ∧ Sl [7] σ0 σ ∧ ∃ r n, m = rMu (o.map (·.1)) r ∧ rMu (o.map (·.1)) r < n ∧ n ≤ 60 ∧ RInv (outT o) (o.map (·.1)) wm S r ∧ r.ones.length ≤ 12 + r.others.length ∧ reachM (outT o) ns wm = rGo (outT o) wm n r ∧ H' l1 = some (.lst (r.ones.map V.str)) ∧ H' l2 = some (.lst (r.others.map V.str)) ∧ H' l3 = some (.lst (r.waiting.map V.str)), ⟨_, Chg.refl, Sl.refl, _, 60, rfl, ?_, Nat.le_refl _, r0, ?_, rfl, e4 _ _ (e3 _ _ hD2), e4 _ _ i3, i4⟩, ?_⟩
  · show 2 * ((o.map (·.1)).length - 0) + (onesOf wm ns).length < 60
    omega
  · show (onesOf wm ns).length ≤ 12 + 0
    omega
  rintro m σ H5 ⟨hc, hσ, r, n, rfl, hmn, hn60, hr0, hon, he, a1, a2, a3⟩
  refine ⟨_, hσ.g 6 (by decide) rfl, small 0 (by decide), fun q hq => ?_⟩
  have e6 : Same H5 (upd H5 q (.lst [])) := same_new hq _
  have i6 : upd H5 q (.lst []) q = some (.lst (([] : List Str).map V.str)) := upd_same
  generalize upd H5 q (.lst []) = H6 at e6 i6
  refine ⟨_, _, dp_strs (e6 _ _ a3), dp_strs i6, sh_strs (fun x hx => sk x (hr0.wait x hx).1), sh_strs (fun x hx => by cases hx), _, rfl, ?_⟩
  show if (!PyData.eqv (.list (r.waiting.map PyData.str)) (.list [])) = true then _ else _
  rw [eqv_nil]
  have hc6 : Chg [l1, l2, l3] H4 H6 := fun b u nn e => e6 _ _ (hc _ _ nn e)
  have a1 := e6 _ _ a1
  have a2 := e6 _ _ a2
  have a3 := e6 _ _ a3
  cases hwl : r.waiting.getLast? with
  | none =>
    have hw0 : r.waiting = [] := List.getLast?_eq_none_iff.mp hwl
    have hem : (r.waiting.map PyData.str).isEmpty = true := by rw [hw0]; rfl
    rw [hem]
    refine iteF ?_
    obtain ⟨n', rfl⟩ : ∃ n', n = n' + 1 := ⟨n - 1, by omega⟩
    rw [rGo_end hw0] at he
    refine ⟨_, hσ.g 4 (by decide) rfl, _, hσ.g 5 (by decide) rfl, small 2 (by decide), fun t ht => k _ _ ?_⟩
    show Same H _ ∧ _
    rw [he]
    exact ⟨fun b u e => same_new ht _ _ _ (keep _ hc6 _ _ e), t, l1, l2, rfl, upd_same, same_new ht _ _ _ a1, same_new ht _ _ _ a2, hr0⟩
  | some y =>
    have hwne : r.waiting ≠ [] := fun z => by
      rw [z] at hwl
      cases hwl
    have hem : (r.waiting.map PyData.str).isEmpty = false := by
      cases hq : r.waiting with
      | nil => exact absurd hq hwne
      | cons _ _ => rfl
    rw [hem]
    refine iteT ?_
    have hym : y ∈ r.waiting := List.mem_of_getLast? hwl
    obtain ⟨hyU, hyS⟩ := hr0.wait y hym
    obtain ⟨ys, hys⟩ := KM.look_mem hyU
    have hoy : outT o y = ys := by
      unfold outT
      rw [hys]
      rfl
    obtain ⟨n', rfl⟩ : ∃ n', n = n' + 1 := ⟨n - 1, by omega⟩
    rw [rGo_pop hwl, hoy] at he
    have hlast : (r.waiting.map V.str)[(r.waiting.map V.str).length - 1]? = some (.str y) := by
      rw [List.length_map, List.getElem?_map, ← List.getLast?_eq_getElem?, hwl]
      rfl
    refine ⟨fun σ' H' => ∃ m', m' < rMu (o.map (·.1)) r ∧ (Chg [l1, l2, l3] H4 H' ∧ Sl [7] σ0 σ' ∧ ∃ r n, m' = rMu (o.map (·.1)) r ∧ rMu (o.map (·.1)) r < n ∧ n ≤ 60 ∧ RInv (outT o) (o.map (·.1)) wm S r ∧ r.ones.length ≤ 12 + r.others.length ∧ reachM (outT o) ns wm = rGo (outT o) wm n r ∧ H' l1 = some (.lst (r.ones.map V.str)) ∧ H' l2 = some (.lst (r.others.map V.str)) ∧ H' l3 = some (.lst (r.waiting.map V.str))), fun _ _ h => h, ?_⟩
    refine ⟨_, hσ.g 0 (by decide) rfl, _, hσ.g 6 (by decide) rfl, .inl ⟨rfl, _, SqL.of a3⟩, l3, _, _, rfl, rfl, a3, hlast, ?_⟩
    have hc7 : Chg [l1, l2, l3] H4 (upd H6 l3 (.lst (r.waiting.map V.str).dropLast)) := Chg.upd hc6 (by simp)
    have b1 : upd H6 l3 (.lst (r.waiting.map V.str).dropLast) l1 = _ := (upd_ne n13).trans a1
    have b2 : upd H6 l3 (.lst (r.waiting.map V.str).dropLast) l2 = _ := (upd_ne n23).trans a2
    have b3 : upd H6 l3 (.lst (r.waiting.map V.str).dropLast) l3 = some (.lst (r.waiting.dropLast.map V.str)) := by rw [upd_same, List.map_dropLast]
    generalize upd H6 l3 (.lst (r.waiting.map V.str).dropLast) = H7 at hc7 b1 b2 b3
    obtain ⟨lo, hlo2, hlo⟩ := douts ho hys
    have hμ : rMu (o.map (·.1)) ⟨r.ones, r.others, r.waiting.dropLast⟩ + 1 = rMu (o.map (·.1)) r := by
      unfold rMu
      rw [List.length_dropLast]
      have : 0 < r.waiting.length := List.length_pos_iff.mpr hwne
      show 2 * ((o.map (·.1)).length - r.others.length) + (r.waiting.length - 1) + 1 = _
      omega
    have r7 : RInv (outT o) (o.map (·.1)) wm S ⟨r.ones, r.others, r.waiting.dropLast⟩ := ⟨hr0.nd, hr0.sub, fun z hz => hr0.wait z (List.dropLast_subset _ hz), hr0.one⟩
    refine ⟨d, _, rfl, hlo _ (keep _ hc7), lo, rfl, ⟨_, SqL.of (keep _ hc7 _ _ hlo2)⟩, ?_⟩
    refine for_it (wl (K := K) (a := lo) ys V.str) (fun i σ H' => Chg [l1, l2, l3] H4 H' ∧ Sl [7] σ0 σ ∧ ∃ r', r' = (ys.take i).foldl (rStep wm) ⟨r.ones, r.others, r.waiting.dropLast⟩ ∧ RInv (outT o) (o.map (·.1)) wm S r' ∧ rMu (o.map (·.1)) r' < rMu (o.map (·.1)) r ∧ r'.ones.length ≤ 12 + r'.others.length ∧ r'.waiting.length ≤ 100 + r'.others.length ∧ H' l1 = some (.lst (r'.ones.map V.str)) ∧ H' l2 = some (.lst (r'.others.map V.str)) ∧ H' l3 = some (.lst (r'.waiting.map V.str)))
      ⟨hc7, hσ, _, rfl, r7, (by show rMu (o.map (·.1)) ⟨r.ones, r.others, r.waiting.dropLast⟩ < _; omega), hon, ?_, b1, b2, b3⟩ (fun i σ H' _ h => SqL.of (keep _ h.1 _ _ hlo2)) ?_ ?_
    · show r.waiting.dropLast.length ≤ 100 + r.others.length
      rw [List.length_dropLast]
      have : r.waiting.length ≤ rMu (o.map (·.1)) r := Nat.le_add_left _ _
      omega
    · rintro i v σ2 H8 H9 hi ⟨hc9, hσ9, r', hr', ri, hm, ho1, ho3, d1, d2, d3⟩ ⟨hH, z, hz, rfl⟩
      subst hH
      have hzS : z ∈ S := hyS z (by rw [hoy]; exact List.mem_of_getElem? hz)
      have hsnoc : (ys.take (i + 1)).foldl (rStep wm) ⟨r.ones, r.others, r.waiting.dropLast⟩ = rStep wm r' z := by
        rw [take_snoc hz, List.foldl_append, ← hr']
        rfl
      obtain ⟨ri2, hm2⟩ := ri.step hwi hS hzS
      have hσa : Sl [7] σ0 (σ2.set 7 (some (.str z))) := hσ9.set (by decide)
      have s7 : (σ2.set 7 (some (.str z)))[7]? = some (some (.str z)) := hσ9.s
      have hoth := ri.len hwi hS
      refine ⟨_, s7, _, hσa.g 5 (by decide) rfl, l2, _, rfl, .inl (SqL.of d2), rfl, flat_strs _, _, rfl, ?_⟩
      rw [if_pos rfl, inV_str]
      by_cases hzo : z ∈ r'.others
      · rw [decide_eq_true hzo]
        have es : rStep wm r' z = r' := by
          unfold rStep
          rw [if_pos hzo]
        exact iteF ⟨hc9, hσa, r', by rw [hsnoc, es], ri, hm, ho1, ho3, d1, d2, d3⟩
      · rw [decide_eq_false hzo]
        refine iteT ?_
        have es : rStep wm r' z = ⟨r'.ones ++ [wVal wm z], r'.others ++ [z], r'.waiting ++ [wVal wm z]⟩ := by
          unfold rStep
          rw [if_neg hzo]
        obtain ⟨m, em, _⟩ := hS z hzS
        have emv : wVal wm z = m := by
          unfold wVal
          rw [em]
          rfl
        rw [es, emv] at ri2 hm2
        refine ⟨_, hσa.g 5 (by decide) rfl, .inl ⟨rfl, _, SqL.of d2⟩, _, s7, l2, _, _, rfl, rfl, d2, ?_, ?_⟩
        · rw [List.length_map]
          exact smallt _ (by omega)
        have c10 : Chg [l1, l2, l3] H4 (upd H9 l2 (.lst (r'.others.map V.str ++ [.str z]))) := Chg.upd hc9 (by simp)
        have g1 : upd H9 l2 (.lst (r'.others.map V.str ++ [.str z])) l1 = _ := (upd_ne n12).trans d1
        have g2 : upd H9 l2 (.lst (r'.others.map V.str ++ [.str z])) l2 = some (.lst ((r'.others ++ [z]).map V.str)) := by
          rw [upd_same, List.map_append]
          rfl
        have g3 : upd H9 l2 (.lst (r'.others.map V.str ++ [.str z])) l3 = _ := (upd_ne n23.symm).trans d3
        generalize upd H9 l2 (.lst (r'.others.map V.str ++ [.str z])) = H10 at c10 g1 g2 g3
        refine ⟨_, hσa.g 4 (by decide) rfl, .inl ⟨rfl, _, SqL.of g1⟩, _, hσa.g 2 (by decide) rfl, _, s7, wd, _, rfl, dget (keep _ c10 _ _ hwd) em, l1, _, _, rfl, rfl, g1, ?_, ?_⟩
        · rw [List.length_map]
          exact smallt _ (by omega)
        have c11 : Chg [l1, l2, l3] H4 (upd H10 l1 (.lst (r'.ones.map V.str ++ [.str m]))) := Chg.upd c10 (by simp)
        have k1 : upd H10 l1 (.lst (r'.ones.map V.str ++ [.str m])) l1 = some (.lst ((r'.ones ++ [m]).map V.str)) := by
          rw [upd_same, List.map_append]
          rfl
        have k2 : upd H10 l1 (.lst (r'.ones.map V.str ++ [.str m])) l2 = _ := (upd_ne n12.symm).trans g2
        have k3 : upd H10 l1 (.lst (r'.ones.map V.str ++ [.str m])) l3 = _ := (upd_ne n13.symm).trans g3
        generalize upd H10 l1 (.lst (r'.ones.map V.str ++ [.str m])) = H11 at c11 k1 k2 k3
        refine ⟨_, hσa.g 6 (by decide) rfl, .inl ⟨rfl, _, SqL.of k3⟩, _, hσa.g 2 (by decide) rfl, _, s7, wd, _, rfl, dget (keep _ c11 _ _ hwd) em, l3, _, _, rfl, rfl, k3, ?_, ?_⟩
        · rw [List.length_map]
          exact smallt _ (by omega)
        refine ⟨Chg.upd c11 (by simp), hσa, _, by rw [hsnoc, es, emv], ri2, Nat.lt_of_le_of_lt hm2 hm, ?_, ?_, (upd_ne n13).trans k1, (upd_ne n23).trans k2, ?_⟩
        · simp only [List.length_append, List.length_singleton]
          omega
        · simp only [List.length_append, List.length_singleton]
          omega
        · rw [upd_same, List.map_append]
          rfl
    · rintro σ2 H8 ⟨hc9, hσ9, r', hr', ri, hm, ho1, ho3, d1, d2, d3⟩
      rw [List.take_length] at hr'
      refine ⟨_, hm, hc9, hσ9, r', n', rfl, by omega, by omega, ri, ho1, ?_, d1, d2, d3⟩
      rw [he, hr']
end
end BX
end
section
set_option linter.all false
namespace KM
section
variable {α : Type} [DecidableEq α]
/-- what a matching, grown over names, is worth -/
structure MI (out : α → List α) (U names : List α) (w : W α) : Prop where
  mw : MW out U w
  vn : (w.map (·.2)).Nodup
  vs : ∀ v ∈ w.map (·.2), v ∈ names
  dead : ∀ x ∈ names, x ∉ w.map (·.2) → Dead out w x
theorem MI.nil (out : α → List α) (U : List α) : MI out U [] [] := ⟨⟨.nil, (fun _ _ h => by cases h), (fun _ h => by cases h)⟩, .nil, (fun _ h => by cases h), (fun _ h => by cases h)⟩
theorem Dead.keep {out : α → List α} {w w' : W α} {x : α} (h : Dead out w x) (k : ∀ T, Closed out w T → ∀ o ∈ T, look w' o = look w o) : Dead out w' x := by
  obtain ⟨T, hT, hx⟩ := h
  refine ⟨T, fun o ho => ?_, hx⟩
  obtain ⟨m, hm, hc⟩ := hT o ho
  exact ⟨m, (k T hT o ho).trans hm, hc⟩
theorem MI.snoc {out : α → List α} {U names : List α} {w : W α} {x : α} {n : Nat} (hU : ∀ m, ∀ o ∈ out m, o ∈ U) (h : MI out U names w) (hx : x ∉ names) (hn : U.length < n) :
    MI out U (names ++ [x]) (grow out n x w []).2.1 ∧ ((grow out n x w []).2.1.map (·.2)).Perm (if (grow out n x w []).1 = true then x :: w.map (·.2) else w.map (·.2)) := by
  have g := grow_good hU n x w [] ⟨.nil, (fun _ h => by cases h)⟩ (by simpa using hn)
  have hxv : x ∉ w.map (·.2) := fun z => hx (h.vs x z)
  cases hb : (grow out n x w []).1 with
  | true =>
    obtain ⟨y1, y2, y3, y4⟩ := g.yes hb h.mw
    have far := g.far hb
    rw [if_pos rfl]
    refine ⟨⟨y1, ?_, fun v hv => ?_, fun z hz hzv => ?_⟩, y2⟩
    · rw [y2.nodup_iff, List.nodup_cons]
      exact ⟨hxv, h.vn⟩
    · rcases List.mem_cons.mp (y2.mem_iff.mp hv) with e | e
      · rw [e]
        simp
      · exact List.mem_append_left _ (h.vs v e)
    · have hzv' : z ∉ x :: w.map (·.2) := fun q => hzv (y2.mem_iff.mpr q)
      rw [List.mem_cons, not_or] at hzv'
      rcases List.mem_append.mp hz with e | e
      · exact (h.dead z e hzv'.2).keep fun T hT => (far T hT).2
      · exact absurd (List.mem_singleton.mp e) hzv'.1
  | false =>
    obtain ⟨n1, n2, n3⟩ := g.no hb
    rw [if_neg (by decide), n1]
    refine ⟨⟨h.mw, h.vn, fun v hv => List.mem_append_left _ (h.vs v hv), fun z hz hzv => ?_⟩, List.Perm.refl _⟩
    rcases List.mem_append.mp hz with e | e
    · exact h.dead z e hzv
    · rw [List.mem_singleton.mp e]
      exact ⟨_, fun o ho => n3 o ho (fun q => by cases q), n2⟩
theorem dead_all {out : α → List α} {w : W α} : ∀ {xs : List α}, (∀ x ∈ xs, Dead out w x) → ∃ S, Closed out w S ∧ ∀ x ∈ xs, ∀ y ∈ out x, y ∈ S
  | [], _ => ⟨[], (fun _ h => by cases h), (fun _ h => by cases h)⟩
  | x :: xs, h => by
    obtain ⟨T, hT, hx⟩ := h x List.mem_cons_self
    obtain ⟨S, hS, hxs⟩ := dead_all fun y hy => h y (List.mem_cons_of_mem x hy)
    refine ⟨T ++ S, fun o ho => ?_, fun y hy z hz => ?_⟩
    · rcases List.mem_append.mp ho with e | e
      · obtain ⟨m, hm, hc⟩ := hT o e
        exact ⟨m, hm, fun p hp => List.mem_append_left _ (hc p hp)⟩
      · obtain ⟨m, hm, hc⟩ := hS o e
        exact ⟨m, hm, fun p hp => List.mem_append_right _ (hc p hp)⟩
    · rcases List.mem_cons.mp hy with e | e
      · rw [e] at hz
        exact List.mem_append_left _ (hx z hz)
      · exact List.mem_append_right _ (hxs y e z hz)
end
end KM
end
section
set_option Elab.async false
set_option linter.all false
set_option maxRecDepth 100000
set_option maxHeartbeats 4000000
namespace BX
open PySem PySem.Spec PyProof.Rows L2
open C8 (Cal Mak Met pe_c pe_mk pe_mt pe_mt0 pe_gc)
theorem outT_cl {o : List (Str × List Str)} (ok : TabOk o) : ∀ m, ∀ z ∈ outT o m, z ∈ o.map (·.1) := fun m z hz => by
  unfold outT at hz
  cases hm : KM.look o m with
  | none =>
    rw [hm] at hz
    cases hz
  | some zs =>
    rw [hm] at hz
    exact ok.cl m zs hm z hz
theorem match_mi {o : List (Str × List Str)} (ok : TabOk o) (ns : List Str) (hn : ns.Nodup) : KM.MI (outT o) (o.map (·.1)) ns (matchM (outT o) ns) := by
  have gen : ∀ k, k ≤ ns.length → KM.MI (outT o) (o.map (·.1)) (ns.take k) (matchM (outT o) (ns.take k)) := by
    intro k
    induction k with
    | zero => exact fun _ => KM.MI.nil _ _
    | succ k ih =>
      intro hk
      have hx : ns[k]? = some (ns[k]'hk) := List.getElem?_eq_getElem hk
      rw [take_snoc hx, matchM_snoc]
      refine (KM.MI.snoc (outT_cl ok) (ih (by omega)) (fun hm => ?_) ?_).1
      · have := take_map_notin (f := fun x : Str => x) (l := ns) (i := k) (x := ns[k]'hk) (by simpa using hn) hx
        exact this (by simpa using hm)
      · rw [List.length_map]
        have := ok.l12
        omega
  have := gen ns.length (Nat.le_refl _)
  rwa [List.take_length] at this
theorem match_dead {o : List (Str × List Str)} (ok : TabOk o) {ns : List Str} (hn : ns.Nodup) : ∃ S, KM.Closed (outT o) (matchM (outT o) ns) S ∧ ∀ x ∈ onesOf (matchM (outT o) ns) ns, ∀ y ∈ outT o x, y ∈ S :=
  KM.dead_all fun x hx => (match_mi ok ns hn).dead x (List.mem_filter.mp hx).1 (of_decide_eq_true (List.mem_filter.mp hx).2)
/-- from the inner ones outwards -/
def chainGo (w : KM.W Str) : Nat → Str → List Str → List Str
  | 0, x, acc => x :: acc
  | n + 1, x, acc => match KM.look w x with
    | none => x :: acc
    | some m => chainGo w n m (x :: acc)
theorem chain_end {w : KM.W Str} {n : Nat} {x : Str} {acc : List Str} (h : KM.look w x = none) : chainGo w n x acc = x :: acc := by
  cases n with
  | zero => rfl
  | succ n =>
    unfold chainGo
    rw [h]
theorem chain_more {w : KM.W Str} {n : Nat} {x m : Str} {acc : List Str} (h : KM.look w x = some m) : chainGo w (n + 1) x acc = chainGo w n m (x :: acc) := by
  conv => lhs; unfold chainGo
  rw [h]
def nestsM (w : KM.W Str) (names : List Str) : List (List Str) := (onesOf w names).map fun x => chainGo w 13 x []
def Ranked (w : KM.W Str) : Prop := ∃ rk : Str → Nat, (∀ x, rk x < 13) ∧ ∀ z m, KM.look w z = some m → rk m < rk z
section
variable {P : Program} {w : World} {K : PySem.W.Frag} {mg : Str → Option Value} {base : Heap}
/-- a list of lists of names at l, all of it new since H0 -/
def NestsAt (H0 H : Hp) (l : Addr) (nn : List (List Str)) : Prop := H0 l = none ∧ l ≠ sysModules ∧ ∃ as, H l = some (.lst (as.map V.ref)) ∧ Paired (fun a n => H0 a = none ∧ a ≠ sysModules ∧ a ≠ l ∧ H a = some (.lst (n.map V.str))) as nn
theorem NestsAt.same {H0 H H' : Hp} {l : Addr} {nn : List (List Str)} (e : Same H H') (h : NestsAt H0 H l nn) : NestsAt H0 H' l nn := by
  obtain ⟨a, b, as, h1, h2⟩ := h
  exact ⟨a, b, as, e _ _ h1, Paired.mapP h2 fun a n ⟨q1, q2, q3, q4⟩ => ⟨q1, q2, q3, e _ _ q4⟩⟩
def spNestsBy : Sp := SpG (G := Addr × Addr × List Str × KM.W Str) (fun (l, wd, _, _) => [.ref l, .ref wd]) (fun (l, wd, ns, wm) H => H l = some (.lst (ns.map V.str)) ∧ ns.length ≤ 12 ∧ H wd = some (.dK (dmap V.str wm)) ∧ wm.length ≤ 12 ∧ Ranked wm)
  (fun (l, wd, ns, wm) H v H' => Same H H' ∧ ∃ q, v = .ref q ∧ NestsAt H H' q (nestsM wm ns))
abbrev N_nests_by : List PySem.Str := ["names", "within", "inner", "found", "name", "nest"]
theorem sc_nests_by : FnScope N_nests_by ["names", "within"] d_nests_by.scope := ⟨rfl, rfl, rfl, by decide +kernel, rfl, by decide +kernel, by decide +kernel⟩
theorem c_nests_by (T : TX K mg) : Cal P w K mg base 1 "nests_by" spNestsBy [] := by
  refine calD T T.f_nests_by rfl T.g_nests_by (bindsN rfl fun _ _ _ _ _ _ us hl => match us, hl with | [_, _], _ => rfl) sc_nests_by (fun _ => rfl) fun cdv A outer s0 H Q E f g hr hp k => ?_
  obtain ⟨l, wd, ns, wm⟩ := g
  obtain ⟨hl, h12, hwd, hw12, rk, hrk, hrk2⟩ := hp
  refine ⟨_, (pss_cons (ps_set (i := 2) sc_nests_by.nd rfl (Or.inl rfl) (pe_listVals rfl rfl T.n_list b_list (pv 1)))
    (pss_cons (ps_set (i := 3) sc_nests_by.nd rfl (Or.inl rfl) (pe_lstN pa_nil))
    (pss_cons (ps_for PassesOwn.never rfl (pi_listK K rfl (pv 0)) (pg_name (i := 4) sc_nests_by.nd rfl (Or.inl rfl)) (pss_one (ps_if (pt_cmpR (op_notInK K rfl) (pv 4) (pv 2) rfl) (pss_cons (ps_set (i := 5) sc_nests_by.nd rfl (Or.inl rfl) (pe_lstN (pa_cons (pv 4) pa_nil)))
        (pss_cons (ps_while PassesOwn.never (pt_cmp (pc_din (hu_of hr) (pe_ix (ix_listK K rfl) (pv 5) pe_int (fun _ _ => rfl)) (pv 1)) rfl) (pss_one (ps_expr (pe_bm PySem.F.plainAttrs_list PySem.F.slot_list_insert PySem.F.type_list_insert mt_insert (pv 5) (pa_cons pe_int (pa_cons (pe_dget (hu_of hr) (pv 1) (pe_ix (ix_listK K rfl) (pv 5) pe_int (fun _ _ => rfl)) (fun _ _ => rfl)) pa_nil))))))
        (pss_one (ps_expr (pe_bm PySem.F.plainAttrs_list PySem.F.slot_list_append PySem.F.type_list_append mt_append (pv 3) (pa_cons (pv 5) pa_nil)))))) pss_nil)))
    (pss_one (ps_ret (pv 3)))))), ?_⟩
  refine ⟨_, rfl, wd, _, rfl, hwd, fun li hli => ?_⟩
  have ev : (dmap V.str wm).map (·.2) = (wm.map (·.2)).map V.str := by
    unfold dmap
    rw [List.map_map, List.map_map]
    rfl
  rw [ev]
  have e1 : Same H (upd H li (.lst ((wm.map (·.2)).map V.str))) := same_new hli _
  have i1 : upd H li (.lst ((wm.map (·.2)).map V.str)) li = _ := upd_same
  generalize upd H li (.lst ((wm.map (·.2)).map V.str)) = H1 at e1 i1
  refine ⟨small 0 (by decide), fun q hq hqs => ?_⟩
  have e2 : Same H1 (upd H1 q (.lst [])) := same_new hq _
  have i2 : upd H1 q (.lst []) q = _ := upd_same
  generalize upd H1 q (.lst []) = H2 at e2 i2
  have e02 : Same H H2 := fun b u e => e2 _ _ (e1 _ _ e)
  have old : ∀ b u, H1 b = some u → b ∉ [q] := fun b u e z => by
    rw [List.mem_singleton.mp z, hq] at e
    cases e
  have keep : ∀ H', Chg [q] H2 H' → Same H1 H' := fun H' c b u e => c _ _ (old _ _ e) (e2 _ _ e)
  have keep0 : ∀ H', Chg [q] H2 H' → Same H H' := fun H' c b u e => keep H' c _ _ (e1 _ _ e)
  have hq0 : H q = none := by
    cases z : H q with
    | none => rfl
    | some u =>
      rw [e1 _ _ z] at hq
      cases hq
  refine ⟨_, rfl, l, rfl, ⟨_, SqL.of (e02 _ _ hl)⟩, ?_⟩
  refine for_it (wl (K := K) (a := l) ns V.str) (fun i σ H' => Chg [q] H2 H' ∧ Sl [4, 5] (((L2.start N_nests_by [V.ref l, .ref wd]).set 2 (some (.ref li))).set 3 (some (.ref q))) σ ∧ ∃ as, H' q = some (.lst (as.map V.ref)) ∧ Paired (fun a n => H a = none ∧ a ≠ sysModules ∧ a ≠ q ∧ H' a = some (.lst (n.map V.str))) as (nestsM wm (ns.take i)))
    ⟨Chg.refl, Sl.refl, [], i2, .nil⟩ (fun i σ H' _ h => SqL.of (keep0 _ h.1 _ _ hl)) ?_ ?_
  · rintro i v σ H3 H4 hi ⟨hc, hσ, as, has, hps⟩ ⟨hH, x, hx, rfl⟩
    subst hH
    have hσa : Sl [4, 5] _ (σ.set 4 (some (.str x))) := hσ.set (by decide)
    have s4 : (σ.set 4 (some (.str x)))[4]? = some (some (.str x)) := hσ.s
    have hno : onesOf wm (ns.take (i + 1)) = onesOf wm (ns.take i) ++ if x ∈ wm.map (·.2) then [] else [x] := by
      unfold onesOf
      rw [take_snoc hx, List.filter_append, List.filter_cons]
      by_cases hm : x ∈ wm.map (·.2)
      · rw [if_pos hm, decide_eq_false (fun z => z hm)]
        rfl
      · rw [if_neg hm, decide_eq_true hm]
        rfl
    have hasl : as.length ≤ 12 := by
      rw [Paired.length hps]
      unfold nestsM onesOf
      rw [List.length_map]
      refine Nat.le_trans (List.length_filter_le _ _) ?_
      rw [List.length_take]
      omega
    refine ⟨_, s4, _, hσa.g 2 (by decide) rfl, li, _, rfl, .inl (SqL.of (keep _ hc _ _ i1)), rfl, flat_strs _, _, rfl, ?_⟩
    rw [if_pos rfl, inV_str]
    by_cases hm : x ∈ wm.map (·.2)
    · rw [decide_eq_true hm]
      refine iteF ⟨hc, hσa, as, has, ?_⟩
      unfold nestsM
      rw [hno, if_pos hm, List.append_nil]
      exact hps
    · rw [decide_eq_false hm]
      refine iteT ?_
      refine ⟨_, s4, small 1 (by decide), fun t ht hts => ?_⟩
      have e5 : Same H4 (upd H4 t (.lst [.str x])) := same_new ht _
      have i5 : upd H4 t (.lst [.str x]) t = _ := upd_same
      generalize upd H4 t (.lst [.str x]) = H5 at e5 i5
      have tq : t ≠ q := fun z => by
        rw [z, has] at ht
        cases ht
      have t0 : H t = none := by
        cases z : H t with
        | none => rfl
        | some u =>
          rw [keep0 _ hc _ _ z] at ht
          cases ht
      have old5 : ∀ b u, H4 b = some u → b ∉ [t] := fun b u e z => by
        rw [List.mem_singleton.mp z, ht] at e
        cases e
      have hσb : Sl [4, 5] _ ((σ.set 4 (some (.str x))).set 5 (some (.ref t))) := hσa.set (by decide)
      have s5 : ((σ.set 4 (some (.str x))).set 5 (some (.ref t)))[5]? = some (some (.ref t)) := hσa.s
      refine ⟨fun m σ' H' => σ' = (σ.set 4 (some (.str x))).set 5 (some (.ref t)) ∧ Chg [t] H5 H' ∧ ∃ y acc n, m = rk y ∧ rk y < n ∧ acc.length + n ≤ 13 ∧ chainGo wm 13 x [] = chainGo wm n y acc ∧ H' t = some (.lst ((y :: acc).map V.str)), ⟨_, rfl, Chg.refl, x, [], 13, rfl, hrk x, Nat.le_refl _, rfl, i5⟩, ?_⟩
      rintro m σ' H6 ⟨rfl, hc6, y, acc, n, rfl, hyn, hal, hch, ht6⟩
      have k6 : Same H H6 := fun b u e => hc6 _ _ (old5 _ _ (keep0 _ hc _ _ e)) (e5 _ _ (keep0 _ hc _ _ e))
      have hwd6 := k6 _ _ hwd
      refine ⟨_, s5, t, _, _, _, rfl, rfl, SqL.of ht6, atI_nat (j := 0) rfl, _, hσb.g 1 (by decide) rfl, wd, _, rfl, dhas hwd6 y, _, rfl, ?_⟩
      rw [Option.isSome_map]
      cases hl : KM.look wm y with
      | none =>
        refine iteF ?_
        rw [chain_end hl] at hch
        have hq6 : H6 q = some (.lst (as.map V.ref)) := hc6 _ _ (old5 _ _ has) (e5 _ _ has)
        refine ⟨_, hσb.g 3 (by decide) rfl, .inl ⟨rfl, _, SqL.of hq6⟩, _, s5, q, _, _, rfl, rfl, hq6, ?_, ?_⟩
        · rw [List.length_map]
          exact smallt _ (by omega)
        refine ⟨Chg.upd (fun b u nn e => hc6 _ _ (old5 _ _ (hc _ _ nn e)) (e5 _ _ (hc _ _ nn e))) (List.mem_singleton_self q), hσb, as ++ [t], ?_, ?_⟩
        · rw [upd_same, List.map_append]
          rfl
        · unfold nestsM
          rw [hno, if_neg hm, List.map_append]
          refine paired_app (Paired.mapP hps fun a nn ⟨q1, q2, q3, q4⟩ => ⟨q1, q2, q3, ?_⟩) (.cons ⟨t0, hts, tq, ?_⟩ .nil)
          · rw [upd_ne q3]
            exact hc6 _ _ (old5 _ _ q4) (e5 _ _ q4)
          · rw [upd_ne tq]
            show H6 t = some (.lst ((chainGo wm 13 x []).map V.str))
            rw [hch]
            exact ht6
      | some mm =>
        refine iteT ?_
        obtain ⟨n', rfl⟩ : ∃ n', n = n' + 1 := ⟨n - 1, by omega⟩
        rw [chain_more hl] at hch
        refine ⟨fun σ' H' => ∃ m', m' < rk y ∧ (σ' = σ' ∧ σ' = (σ.set 4 (some (.str x))).set 5 (some (.ref t)) ∧ Chg [t] H5 H' ∧ ∃ y acc n, m' = rk y ∧ rk y < n ∧ acc.length + n ≤ 13 ∧ chainGo wm 13 x [] = chainGo wm n y acc ∧ H' t = some (.lst ((y :: acc).map V.str))), fun _ _ ⟨m', h1, h2⟩ => ⟨m', h1, h2.2⟩, ?_⟩
        refine ⟨_, s5, .inl ⟨rfl, _, SqL.of ht6⟩, _, hσb.g 1 (by decide) rfl, _, s5, t, _, _, _, rfl, rfl, SqL.of ht6, atI_nat (j := 0) rfl, wd, _, rfl, dget hwd6 hl, t, _, 0, _, rfl, rfl, ht6, ?_, by decide, by decide, ?_⟩
        · rw [List.length_map]
          show acc.length + 1 < sizeLine
          exact smallt _ (by omega)
        have := hrk2 y mm hl
        exact ⟨rk mm, this, rfl, rfl, Chg.upd hc6 (List.mem_singleton_self t), mm, y :: acc, n', rfl, by omega, by simp only [List.length_cons]; omega, hch, upd_same⟩
  · rintro σ H3 ⟨hc, hσ, as, has, hps⟩
    rw [List.take_length] at hps
    exact ⟨_, hσ.g 3 (by decide) rfl, k _ _ ⟨keep0 _ hc, q, rfl, hq0, hqs, as, has, hps⟩⟩
end
end BX
end
section
set_option Elab.async false
set_option linter.all false
set_option maxRecDepth 100000
set_option maxHeartbeats 4000000
namespace BX
open PySem PySem.Spec PyProof.Rows L2
open C8 (Cal Mak Met pe_c pe_mk pe_mt pe_mt0 pe_gc)
theorem take_notin {α : Type} [DecidableEq α] {l : List α} {i : Nat} {x : α} (hn : l.Nodup) (h : l[i]? = some x) : x ∉ l.take i := by
  have := take_map_notin (f := id) (l := l) (i := i) (x := x) (by rw [List.map_id]; exact hn) h
  rwa [List.map_id] at this
/-! ### tables of numbers over fixed names -/
def fmap (names : List Str) (f : Str → Int) : List (Str × Int) := names.map fun x => (x, f x)
theorem fmap_keys (names : List Str) (f : Str → Int) : (fmap names f).map (·.1) = names := by
  unfold fmap
  rw [List.map_map]
  exact List.map_id'' (fun _ => rfl) _
theorem look_fmap {names : List Str} {f : Str → Int} {x : Str} (h : x ∈ names) : KM.look (fmap names f) x = some (f x) := by
  induction names with
  | nil => cases h
  | cons y ys ih =>
    show (if y = x then some (f y) else KM.look (fmap ys f) x) = _
    by_cases e : y = x
    · rw [if_pos e, e]
    · rw [if_neg e]
      exact ih ((List.mem_cons.mp h).resolve_left fun z => e z.symm)
theorem fmap_congr {names : List Str} {f g : Str → Int} (h : ∀ x ∈ names, f x = g x) : fmap names f = fmap names g := List.map_congr_left fun x hx => by rw [h x hx]
theorem put_fmap {names : List Str} {f : Str → Int} {y : Str} {v : Int} (hn : names.Nodup) (h : y ∈ names) : KM.put (fmap names f) y v = fmap names fun x => if x = y then v else f x := by
  induction names with
  | nil => cases h
  | cons z zs ih =>
    rw [List.nodup_cons] at hn
    show (if z = y then (y, v) :: fmap zs f else (z, f z) :: KM.put (fmap zs f) y v) = (z, if z = y then v else f z) :: fmap zs fun x => if x = y then v else f x
    by_cases e : z = y
    · rw [if_pos e, if_pos e, e]
      refine congrArg _ (fmap_congr fun x hx => ?_)
      rw [if_neg fun q => hn.1 (by rw [e, ← q]; exact hx)]
    · rw [if_neg e, if_neg e, ih hn.2 ((List.mem_cons.mp h).resolve_left fun q => e q.symm)]
/-! ### the levels -/
def dd : List Int → List Int
  | [] => []
  | x :: l => if x ∈ l then dd l else x :: dd l
theorem mem_dd {k : Int} : ∀ {l : List Int}, k ∈ dd l ↔ k ∈ l
  | [] => Iff.rfl
  | x :: l => by
    unfold dd
    by_cases h : x ∈ l
    · rw [if_pos h, mem_dd (l := l), List.mem_cons]
      exact ⟨.inr, fun z => z.elim (fun e => e ▸ h) id⟩
    · rw [if_neg h, List.mem_cons, List.mem_cons, mem_dd (l := l)]
theorem nd_dd : ∀ {l : List Int}, (dd l).Nodup
  | [] => .nil
  | x :: l => by
    unfold dd
    by_cases h : x ∈ l
    · rw [if_pos h]
      exact nd_dd
    · rw [if_neg h, List.nodup_cons]
      exact ⟨fun z => h (mem_dd.mp z), nd_dd⟩
def levelsOf (cs : List Int) : List Int := (dd cs).mergeSort fun a b => decide (a ≤ b)
theorem mem_levels {cs : List Int} {k : Int} : k ∈ levelsOf cs ↔ k ∈ cs := by
  unfold levelsOf
  rw [(List.mergeSort_perm _ _).mem_iff]
  exact mem_dd
theorem levels_lt (cs : List Int) : (levelsOf cs).Pairwise (· < ·) := by
  have h1 : (levelsOf cs).Pairwise fun a b => decide (a ≤ b) = true := List.pairwise_mergeSort (fun a b c x y => by
    simp only [decide_eq_true_eq] at x y ⊢
    omega) (fun a b => by
    simp only [Bool.or_eq_true, decide_eq_true_eq]
    omega) _
  have h2 : (levelsOf cs).Pairwise (· ≠ ·) := ((List.mergeSort_perm _ _).nodup_iff).mpr nd_dd
  refine (h1.and h2).imp fun ⟨a, b⟩ => ?_
  simp only [decide_eq_true_eq] at a
  omega
theorem lt_unique : ∀ {l m : List Int}, l.Pairwise (· < ·) → m.Pairwise (· < ·) → (∀ k, k ∈ l ↔ k ∈ m) → l = m
  | [], [], _, _, _ => rfl
  | [], b :: m, _, _, h => absurd ((h b).mpr List.mem_cons_self) (List.not_mem_nil)
  | a :: l, [], _, _, h => absurd ((h a).mp List.mem_cons_self) (List.not_mem_nil)
  | a :: l, b :: m, hl, hm, h => by
    rw [List.pairwise_cons] at hl hm
    have e : a = b := by
      rcases List.mem_cons.mp ((h a).mp List.mem_cons_self) with q | q
      · exact q
      · rcases List.mem_cons.mp ((h b).mpr List.mem_cons_self) with r | r
        · exact r.symm
        · have := hm.1 a q
          have := hl.1 b r
          omega
    subst e
    refine congrArg _ (lt_unique hl.2 hm.2 fun k => ⟨fun z => ?_, fun z => ?_⟩)
    · refine (List.mem_cons.mp ((h k).mp (List.mem_cons_of_mem _ z))).resolve_left fun e => ?_
      have := hl.1 k z
      omega
    · refine (List.mem_cons.mp ((h k).mpr (List.mem_cons_of_mem _ z))).resolve_left fun e => ?_
      have := hm.1 k z
      omega
/-! ### the prices -/
structure PS where
  wi : Str → Int
  wo : Str → Int
  low : Int
def someOf (fal : List Str) (cost : Str → Int) (lv : Int) : List Str := fal.filter fun x => decide (lv ≤ cost x)
def reachAt (out : Str → List Str) (ns : List Str) : RS := reachM out ns (matchM out ns)
def stepPr (out : Str → List Str) (fal : List Str) (cost : Str → Int) (p : PS) (lv : Int) : PS :=
  ⟨fun x => if x ∈ someOf fal cost lv ∧ x ∉ (reachAt out (someOf fal cost lv)).ones then p.wi x + (lv - p.low) else p.wi x,
   fun x => if x ∈ (reachAt out (someOf fal cost lv)).others then p.wo x + (lv - p.low) else p.wo x, lv⟩
def pricesM (out : Str → List Str) (names fal : List Str) (cost : Str → Int) : PS := (levelsOf (names.map cost)).foldl (stepPr out fal cost) ⟨fun _ => 0, fun _ => 0, 0⟩
section
variable {P : Program} {w : World} {K : PySem.W.Frag} {mg : Str → Option Value} {base : Heap}
def spPrices : Sp := SpG (G := Addr × Addr × Addr × List (Str × List Str) × List Str × List (Str × Int) × (Str → Int)) (fun (d, lf, dc, _, _, _, _) => [.ref d, .ref lf, .ref dc])
  (fun (d, lf, dc, o, fal, cs, cost) H => OutAt H d o ∧ TabOk o ∧ (∀ x ∈ o.map (·.1), SOk x) ∧ d ≠ dc ∧ H lf = some (.lst (fal.map V.str)) ∧ fal.Nodup ∧ (∀ x ∈ fal, x ∈ o.map (·.1)) ∧ H dc = some (.dK (dmap V.int cs)) ∧ ∀ x ∈ o.map (·.1), KM.look cs x = some (cost x))
  (fun (d, lf, dc, o, fal, cs, cost) H v H' => Same H H' ∧ ∃ t a b, v = .ref t ∧ H' t = some (.tup [.ref a, .ref b]) ∧ H a = none ∧ H b = none ∧ a ≠ b ∧ H' a = some (.dK (dmap V.int (fmap (o.map (·.1)) (pricesM (outT o) (o.map (·.1)) fal cost).wi))) ∧ H' b = some (.dK (dmap V.int (fmap (o.map (·.1)) (pricesM (outT o) (o.map (·.1)) fal cost).wo))))
abbrev N_prices_by : List PySem.Str := ["outwards", "falling", "costs", "within", "without", "name", "lower", "level", "some", "ones", "others"]
theorem sc_prices_by : FnScope N_prices_by ["outwards", "falling", "costs"] d_prices_by.scope := ⟨rfl, rfl, rfl, by decide +kernel, rfl, by decide +kernel, by decide +kernel⟩
theorem c_prices_by (T : TX K mg) : Cal P w K mg base 16 "prices_by" spPrices [] := by
  refine calD T T.f_prices_by rfl T.g_prices_by (bindsN rfl fun _ _ _ _ _ _ us hl => match us, hl with | [_, _, _], _ => rfl) sc_prices_by (fun _ => rfl) fun cdv A outer s0 H Q E f g hr hp k => ?_
  obtain ⟨d, lf, dc, o, fal, cs, cost⟩ := g
  obtain ⟨ho, ok, sk, ndc, hlf, hfn, hfs, hdc, hcs⟩ := hp
  refine ⟨_, (pss_cons (ps_set (i := 3) sc_prices_by.nd rfl (Or.inl rfl) pe_dnewK)
    (pss_cons (ps_set (i := 4) sc_prices_by.nd rfl (Or.inl rfl) pe_dnewK)
    (pss_cons (ps_lock (ps_for PassesOwn.never rfl (pi_keys (pv 0)) (pg_name (i := 5) sc_prices_by.nd rfl (Or.inl rfl)) (pss_cons (ps_dput (hu_of hr) (pv 3) (pv 5) pe_int rfl)
      (pss_one (ps_dput (hu_of hr) (pv 4) (pv 5) pe_int rfl)))))
    (pss_cons (ps_set (i := 6) sc_prices_by.nd rfl (Or.inl rfl) pe_int)
    (pss_cons (ps_for PassesOwn.never rfl (pi_listK K rfl (pe_callB (cr_sortedSet rfl) rfl T.n_sorted b_sorted (pa_cons (pe_callTy (cr_setOfI rfl) rfl T.n_set b_set (pa_cons (pe_lock <| pe_lc (own := [("name", 5)]) rfl sc_prices_by.nd (pi_keys (pv 0)) (blkOk_by (own := [("name", 5)]) (N := N_prices_by) (sc := d_prices_by.scope) (by decide +kernel)) (fun _ _ _ _ _ => (pg_name (i := 5) sc_prices_by.nd rfl (Or.inl rfl))) (fun _ _ _ _ _ => pts_nil) (fun _ _ _ _ _ => (pe_dget (hu_of hr) (pv 2) (pv 5) (fun _ _ => rfl)))) pa_nil)) pa_nil))) (pg_name (i := 7) sc_prices_by.nd rfl (Or.inr rfl)) (pss_cons (ps_setLc (i := 8) (own := [("name", 5)]) rfl sc_prices_by.nd rfl rfl (sw_true rfl rfl rfl (by decide +kernel)) (pi_listK K rfl (pv 1)) (blkOk_by (own := [("name", 5)]) (N := N_prices_by) (sc := d_prices_by.scope) (by decide +kernel)) (fun _ _ _ _ _ => (pg_name (i := 5) sc_prices_by.nd rfl (Or.inl rfl))) (fun _ _ _ _ _ => (pts_one (pt_cmpR (op_ge) (pe_dget (hu_of hr) (pv 2) (pv 5) (fun _ _ => rfl)) (pv 7) (nomark _)))) (fun _ _ _ _ _ => (pv 5)))
      (pss_cons (ps_asg (pe_c (c_reached T) hr (by decide) rfl (pa_cons (pv 0) (pa_cons (pv 8) (pa_cons (pe_c (c_matched T) hr (by decide) rfl (pa_cons (pv 0) (pa_cons (pv 8) pa_nil))) pa_nil)))) (pg_tupK (n := 2) K rfl rfl (pgs_cons (pg_name (i := 9) sc_prices_by.nd rfl (Or.inl rfl)) (pgs_cons (pg_name (i := 10) sc_prices_by.nd rfl (Or.inl rfl)) pgs_nil))))
      (pss_cons (ps_for PassesOwn.never rfl (pi_listK K rfl (pv 8)) (pg_name (i := 5) sc_prices_by.nd rfl (Or.inl rfl)) (pss_one (ps_if (pt_cmpR (op_notInK K rfl) (pv 5) (pv 9) rfl) (pss_one (ps_daug (hu_of hr) (pv 3) (pv 5) (pe_op op_sub (pv 7) (pv 6)) in_add (fun _ _ _ => rfl))) pss_nil)))
      (pss_cons (ps_for PassesOwn.never rfl (pi_listK K rfl (pv 10)) (pg_name (i := 5) sc_prices_by.nd rfl (Or.inl rfl)) (pss_one (ps_daug (hu_of hr) (pv 4) (pv 5) (pe_op op_sub (pv 7) (pv 6)) in_add (fun _ _ _ => rfl))))
      (pss_one (ps_set (i := 6) sc_prices_by.nd rfl (Or.inl rfl) (pv 7))))))))
    (pss_one (ps_ret (pe_tup (pa_cons (pv 3) (pa_cons (pv 4) pa_nil)))))))))), ?_⟩
  have ho0 := ho
  obtain ⟨kvs, hd, hkv⟩ := ho
  have hkl : kvs.length = o.length := Paired.length hkv
  have l12 := ok.l12
  have hk12 : (o.map (·.1)).length ≤ 12 := by
    rw [List.length_map]
    exact ok.l12
  have hf12 : fal.length ≤ 12 := Nat.le_trans (KM.nodup_len hfn hfs) hk12
  refine fun a ha => ?_
  have e1 : Same H (upd H a (.dK [])) := same_new ha _
  have a1 : upd H a (.dK []) a = some (.dK []) := upd_same
  generalize upd H a (.dK []) = H1 at e1 a1
  refine fun b hb => ?_
  have e2 : Same H1 (upd H1 b (.dK [])) := same_new hb _
  have b2 : upd H1 b (.dK []) b = some (.dK []) := upd_same
  generalize upd H1 b (.dK []) = H2 at e2 b2
  have a2 := e2 _ _ a1
  have nab : a ≠ b := ne_of_none a1 hb
  have old : ∀ x u, H x = some u → x ∉ [a, b] := fun x u e => not2 (ne_of_none e ha) (ne_of_none (e1 _ _ e) hb)
  have e02 : Same H H2 := fun x u e => e2 _ _ (e1 _ _ e)
  have keep : ∀ H', Chg [a, b] H2 H' → Same H H' := fun H' c x u e => c _ _ (old _ _ e) (e02 _ _ e)
  have hb0 : H b = none := by
    cases z : H b with
    | none => rfl
    | some u =>
      rw [e1 _ _ z] at hb
      cases hb
  have hkn : kvs.map (fun z => kV z.1) = o.map fun z => V.str z.1 := paired_keys hkv
  refine ⟨d, .dK kvs, e02 _ _ hd, trivial, fun od => ?_⟩
  have c3 : ∀ x u, x ≠ d → H2 x = some u → upd H2 d (.frz od (.dK kvs)) x = some u := fun x u n e => (upd_ne n).trans e
  have d3 : upd H2 d (.frz od (.dK kvs)) d = some (.frz od (.dK kvs)) := upd_same
  have nad : a ≠ d := (ne_of_none hd ha).symm
  have nbd : b ≠ d := fun z => by
    rw [z, hd] at hb0
    cases hb0
  have a3 := c3 _ _ nad a2
  have b3 := c3 _ _ nbd b2
  have back : ∀ H', Chg [a, b] (upd H2 d (.frz od (.dK kvs))) H' → Chg [a, b] H2 (upd H' d (.dK kvs)) := fun H' c x u n e => by
    by_cases hx : x = d
    · rw [hx, upd_same]
      rw [hx, e02 _ _ hd] at e
      exact e
    · rw [upd_ne hx]
      exact c _ _ n (c3 _ _ hx e)
  generalize upd H2 d (.frz od (.dK kvs)) = H3 at c3 d3 a3 b3 back
  let σ0 : L2.St := ((L2.start N_prices_by [V.ref d, .ref lf, .ref dc]).set 3 (some (.ref a))).set 4 (some (.ref b))
  let zs (i : Nat) : List (Str × Int) := fmap ((o.map (·.1)).take i) fun _ => 0
  have zk : ∀ i, ((zs i).map (·.1)) = (o.map (·.1)).take i := fun i => fmap_keys _ _
  have zn : ∀ i, ((zs i).map (·.1)).Nodup := fun i => by
    rw [zk]
    exact (List.take_sublist _ _).nodup ok.nd
  have zl : ∀ i, (zs i).length ≤ 1000 := fun i => by
    have : ((zs i).map (·.1)).length ≤ 12 := by
      rw [zk, List.length_take]
      omega
    rw [List.length_map] at this
    omega
  have zp : ∀ i x, (o.map (·.1))[i]? = some x → KM.put (zs i) x 0 = zs (i + 1) := fun i x hx => by
    rw [KM.put_new]
    · show fmap _ _ ++ [(x, 0)] = fmap _ _
      rw [take_snoc hx]
      unfold fmap
      rw [List.map_append]
      rfl
    · rw [zk]
      exact take_notin ok.nd hx
  refine ⟨_, rfl, d, od, rfl, .inl ⟨kvs, d3, ?_⟩⟩
  refine for_it (wk (d := d) (o := od) kvs) (fun i σ H' => Chg [a, b] H3 H' ∧ Sl [5] σ0 σ ∧ H' a = some (.dK (dmap V.int (zs i))) ∧ H' b = some (.dK (dmap V.int (zs i)))) ⟨Chg.refl, Sl.refl, a3, b3⟩ (fun i σ H' _ h => h.1 _ _ (not2 nad.symm nbd.symm) d3) ?_ ?_
  · rintro i v σ H4 H5 hi ⟨hc, hσ, ha4, hb4⟩ ⟨hH, kv, hkv4, rfl⟩
    subst hH
    have hx : ∃ x, (o.map (·.1))[i]? = some x ∧ kV kv.1 = V.str x := by
      have q : (kvs.map fun z => kV z.1)[i]? = some (kV kv.1) := by rw [List.getElem?_map, hkv4]; rfl
      rw [hkn, List.getElem?_map] at q
      obtain ⟨p, hp, e⟩ := Option.map_eq_some_iff.mp q
      exact ⟨p.1, by rw [List.getElem?_map, hp]; rfl, e.symm⟩
    obtain ⟨x, hx, ex⟩ := hx
    rw [ex]
    have hσa : Sl [5] σ0 (σ.set 5 (some (.str x))) := hσ.set (by decide)
    have s5 : (σ.set 5 (some (.str x)))[5]? = some (some (.str x)) := hσ.s
    refine ⟨_, hσa.g 3 (by decide) rfl, _, s5, a, _, rfl, dput (g := V.int) ha4 (zn i) (zl i) x 0, ?_⟩
    have b5 : upd H5 a (.dK (dmap V.int (KM.put (zs i) x 0))) b = _ := (upd_ne nab.symm).trans hb4
    refine ⟨_, hσa.g 4 (by decide) rfl, _, s5, b, _, rfl, dput (g := V.int) b5 (zn i) (zl i) x 0, ?_⟩
    rw [zp i x hx]
    exact ⟨Chg.upd (Chg.upd hc (by simp)) (by simp), hσa, by rw [upd_ne nab, upd_same], upd_same⟩
  rintro σ1 H4 ⟨hc4, hσ1, ha4, hb4⟩
  refine ⟨hc4 _ _ (not2 nad.symm nbd.symm) d3, ?_⟩
  have c5 := back _ hc4
  have a5 : upd H4 d (.dK kvs) a = _ := (upd_ne nad).trans ha4
  have b5 : upd H4 d (.dK kvs) b = _ := (upd_ne nbd).trans hb4
  have ez : zs kvs.length = fmap (o.map (·.1)) fun _ => 0 := by
    show fmap _ _ = _
    rw [List.take_of_length_le (by rw [List.length_map, hkl]; exact Nat.le_refl _)]
  rw [ez] at a5 b5
  generalize upd H4 d (.dK kvs) = H5 at c5 a5 b5
  have hσ2 := hσ1.both 6 (some (.int 0))
  have e05 := keep _ c5
  -- the levels
  refine ⟨d, .dK kvs, e05 _ _ hd, trivial, fun od2 => ?_⟩
  have f3 : ∀ x u, x ≠ d → H5 x = some u → upd H5 d (.frz od2 (.dK kvs)) x = some u := fun x u n e => (upd_ne n).trans e
  have g3 : upd H5 d (.frz od2 (.dK kvs)) d = some (.frz od2 (.dK kvs)) := upd_same
  have back2 : ∀ H', Same (upd H5 d (.frz od2 (.dK kvs))) H' → Same H5 (upd H' d (.dK kvs)) := fun H' c x u e => by
    by_cases hx : x = d
    · rw [hx, upd_same]
      rw [hx, e05 _ _ hd] at e
      exact e
    · rw [upd_ne hx]
      exact c _ _ (f3 _ _ hx e)
  have hdc6 := f3 _ _ ndc.symm (e05 _ _ hdc)
  generalize upd H5 d (.frz od2 (.dK kvs)) = H6 at f3 g3 back2 hdc6
  refine ⟨_, hσ2.g 0 (by decide) rfl, d, od2, rfl, .inl ⟨kvs, g3, fun D hD => ?_⟩⟩
  have hkf := paired_fst hkv
  have hxz : ∀ z ∈ kvs, ∃ x ∈ o.map (·.1), z.1 = Sum.inr x := fun z hz => by
    have q : z.1 ∈ kvs.map (·.1) := List.mem_map_of_mem (f := (·.1)) hz
    rw [hkf] at q
    obtain ⟨p, hp, e⟩ := List.mem_map.mp q
    exact ⟨p.1, List.mem_map_of_mem (f := (·.1)) hp, e.symm⟩
  let F : Key × V → V := fun z => match z.1 with
    | .inr x => .int (cost x)
    | .inl _ => .non
  refine lc_map (J := Itk d od2 kvs) (l := kvs) (fun z => kV z.1) F (wk (d := d) (o := od2) kvs) (fun _ e => e _ _ g3) (by omega) hD ?_ gN ?_
  · intro z H' hz hs Qy y
    obtain ⟨x, hx, ex⟩ := hxz z hz
    have ev : kV z.1 = .str x := by rw [ex]; rfl
    have eF : F z = .int (cost x) := by
      show (match z.1 with | .inr x => V.int (cost x) | .inl _ => V.non) = _
      rw [ex]
    rw [ev]
    rw [eF] at y
    have h2 : Sl [5, 6] _ ((wipe (σ1.set 6 (some (.int 0))) [5]).set 5 (some (V.str x))) := Sl.w1 (js := [5, 6]) (σ0 := σ0.set 6 (some (.int 0))) ⟨hσ2.len, fun j hj => hσ2.at' j (fun q => hj (by rw [List.mem_singleton.mp q]; simp))⟩ (by decide)
    exact ⟨wipe1, _, h2.g 2 (by decide) rfl, _, hσ2.s1, dc, _, rfl, dget (hs _ _ hdc6) (hcs x hx), y _ fun _ _ h => h⟩
  intro H7 hs7 hD7
  refine ⟨hs7 _ _ g3, ?_⟩
  have e57 : Same H5 (upd H7 d (.dK kvs)) := back2 _ hs7
  have nDd : D ≠ d := (ne_of_none g3 hD).symm
  have hD8 : upd H7 d (.dK kvs) D = some (.lst ((o.map fun p => cost p.1).map V.int)) := by
    rw [upd_ne nDd, hD7]
    refine congrArg (some ∘ HO.lst) ?_
    have e1 : kvs.map F = (kvs.map (·.1)).map fun k => match k with
      | .inr x => V.int (cost x)
      | .inl _ => V.non := by
      rw [List.map_map]
      rfl
    rw [e1, hkf, List.map_map, List.map_map]
    rfl
  generalize upd H7 d (.dK kvs) = H8 at e57 hD8
  have ol12 : (o.map fun p => cost p.1).length < 64 := by
    rw [List.length_map]
    omega
  refine ⟨D, _, rfl, SqL.of hD8, ol12, fun st c hst hcl => ?_⟩
  refine ⟨st, _, c, rfl, upd_same, by omega, fun lv pl hlv1 hlv2 hlv3 hpl => ?_⟩
  have elv : lv = levelsOf ((o.map (·.1)).map cost) := lt_unique hlv1 (levels_lt _) fun k => by
    rw [mem_levels, hlv2 k, decide_eq_true_iff, List.map_map]
    exact Iff.rfl
  have e59 : Same H5 (upd (upd H8 st (SetO (cxOf CX0 P w K mg base N_prices_by d_prices_by.qual d_prices_by.scope f cdv A outer s0 H E).nox.w st (fun j => decide (j ∈ o.map fun p => cost p.1)) c)) pl (.lst (lv.map V.int))) := fun x u e => same_new hpl _ _ _ (same_new hst _ _ _ (e57 _ _ e))
  have hpl9 : upd (upd H8 st (SetO (cxOf CX0 P w K mg base N_prices_by d_prices_by.qual d_prices_by.scope f cdv A outer s0 H E).nox.w st (fun j => decide (j ∈ o.map fun p => cost p.1)) c)) pl (.lst (lv.map V.int)) pl = some (.lst (lv.map V.int)) := upd_same
  have n5 : ∀ x u, H5 x = some u → x ≠ pl := fun x u e => ne_of_none (same_new hst _ _ _ (e57 _ _ e)) hpl
  generalize upd (upd H8 st (SetO (cxOf CX0 P w K mg base N_prices_by d_prices_by.qual d_prices_by.scope f cdv A outer s0 H E).nox.w st (fun j => decide (j ∈ o.map fun p => cost p.1)) c)) pl (.lst (lv.map V.int)) = H9 at e59 hpl9
  have a9 := e59 _ _ a5
  have b9 := e59 _ _ b5
  have npa : pl ∉ [a, b] := not2 (n5 _ _ a5).symm (n5 _ _ b5).symm
  have e09 : Same H H9 := fun x u e => e59 _ _ (e05 _ _ e)
  have keep9 : ∀ H', Chg [a, b] H9 H' → Same H H' := fun H' c x u e => c _ _ (old _ _ e) (e09 _ _ e)
  have hnn := ok.nd
  refine ⟨pl, rfl, ⟨_, SqL.of hpl9⟩, ?_⟩
  refine for_it (wl (K := K) (a := pl) lv V.int) (fun i σ H' => Chg [a, b] H9 H' ∧ Sl [5, 6, 7, 8, 9, 10] σ0 σ ∧ σ[6]? = some (some (.int ((lv.take i).foldl (stepPr (outT o) fal cost) ⟨fun _ => 0, fun _ => 0, 0⟩).low)) ∧
      H' a = some (.dK (dmap V.int (fmap (o.map (·.1)) ((lv.take i).foldl (stepPr (outT o) fal cost) ⟨fun _ => 0, fun _ => 0, 0⟩).wi))) ∧ H' b = some (.dK (dmap V.int (fmap (o.map (·.1)) ((lv.take i).foldl (stepPr (outT o) fal cost) ⟨fun _ => 0, fun _ => 0, 0⟩).wo))))
    ⟨Chg.refl, ?_, hσ1.s, a9, b9⟩ (fun i σ H' _ h => SqL.of (h.1 _ _ npa hpl9)) ?_ ?_
  · have hσ1' : Sl [5, 6, 7, 8, 9, 10] σ0 σ1 := ⟨hσ1.len, fun j hj => hσ1.at' j fun q => hj (by rw [List.mem_singleton.mp q]; simp)⟩
    exact hσ1'.set (by decide)
  · rintro i v σ Ha Hb hi ⟨hc, hσ, s6, hwa, hwb⟩ ⟨hH, lev, hlev, rfl⟩
    subst hH
    generalize hP : (lv.take i).foldl (stepPr (outT o) fal cost) ⟨fun _ => 0, fun _ => 0, 0⟩ = P0 at s6 hwa hwb
    have hP1 : (lv.take (i + 1)).foldl (stepPr (outT o) fal cost) ⟨fun _ => 0, fun _ => 0, 0⟩ = stepPr (outT o) fal cost P0 lev := by
      rw [take_snoc hlev, List.foldl_append, hP]
      rfl
    rw [hP1]
    have hσa : Sl [5, 6, 7, 8, 9, 10] σ0 (σ.set 7 (some (.int lev))) := hσ.set (by decide)
    have t7 : (σ.set 7 (some (.int lev)))[7]? = some (some (.int lev)) := hσ.s
    have t6 : (σ.set 7 (some (.int lev)))[6]? = some (some (.int P0.low)) := by
      rw [List.getElem?_set_ne (by decide)]
      exact s6
    generalize hσae : σ.set 7 (some (.int lev)) = σa at hσa t7 t6
    have k0 := keep9 _ hc
    show tSeq _ _ _ (σ.set 7 (some (.int lev))) Hb
    rw [hσae]
    refine ⟨_, hσa.g 1 (by decide) rfl, lf, rfl, ⟨_, SqL.of (k0 _ _ hlf)⟩, fun ls hls => ?_⟩
    refine lc_pure (J := Itl _ lf) (l := fal) V.str (fun x => if lev ≤ cost x then some (V.str x) else none) (wl fal V.str) (fun _ e => sg (k0 _ _ hlf) e) (by omega) hls ?_ ?_
    · intro x H' hx hs Qy Qn y n
      have h2 : Sl [5, 6, 7, 8, 9, 10] σ0 ((wipe σa [5]).set 5 (some (V.str x))) := hσa.w1 (by decide)
      have w7 : ((wipe σa [5]).set 5 (some (V.str x)))[7]? = some (some (.int lev)) := by
        show ((σa.set 5 none).set 5 (some (V.str x)))[7]? = _
        rw [List.set_set, List.getElem?_set_ne (by decide)]
        exact t7
      refine ⟨wipe1, _, h2.g 2 (by decide) rfl, _, hσa.s1, dc, _, rfl, dget (hs _ _ (k0 _ _ hdc)) (hcs x (hfs x hx)), _, w7, _, _, rfl, rfl, _, rfl, ?_⟩
      refine ite2 (fun c => ?_) (fun c => ?_)
      · exact ⟨_, hσa.s1, y _ _ (if_pos (of_decide_eq_true c)) fun _ _ h => h⟩
      · exact n _ (if_neg (of_decide_eq_false (Bool.eq_false_iff.mpr c))) fun _ _ h => h
    intro Hc hsc hDc
    rw [fm_if] at hDc
    have hso : ∀ x ∈ someOf fal cost lev, x ∈ o.map (·.1) := fun x hx => hfs x (List.mem_filter.mp hx).1
    have hson : (someOf fal cost lev).Nodup := hfn.filter _
    have hso12 : (someOf fal cost lev).length ≤ 12 := Nat.le_trans (List.length_filter_le _ _) hf12
    have kc : Same H Hc := fun x u e => hsc _ _ (k0 _ _ e)
    have hDc : Hc ls = some (.lst ((someOf fal cost lev).map V.str)) := hDc
    have hσb : Sl [5, 6, 7, 8, 9, 10] σ0 (σa.set 8 (some (.ref ls))) := hσa.set (by decide)
    have u8 : (σa.set 8 (some (.ref ls)))[8]? = some (some (.ref ls)) := hσa.s
    have u7 : (σa.set 8 (some (.ref ls)))[7]? = some (some (.int lev)) := by
      rw [List.getElem?_set_ne (by decide)]
      exact t7
    have u6 : (σa.set 8 (some (.ref ls)))[6]? = some (some (.int P0.low)) := by
      rw [List.getElem?_set_ne (by decide)]
      exact t6
    show tSeq _ _ _ (σa.set 8 (some (.ref ls))) Hc
    generalize σa.set 8 (some (.ref ls)) = σb at hσb u8 u7 u6
    obtain ⟨S, hS, hdead⟩ := match_dead ok hson
    refine ⟨_, hσb.g 0 (by decide) rfl, _, u8, _, hσb.g 0 (by decide) rfl, _, u8, (d, ls, o, someOf fal cost lev), rfl, ⟨ho0.same kc, ok, hDc, hso⟩, fun v Hd hv => ?_⟩
    obtain ⟨ed, wd, rfl, hwd0, hwd, hwi⟩ := hv
    have kd : Same H Hd := fun x u e => ed _ _ (kc _ _ e)
    refine ⟨(d, ls, wd, o, someOf fal cost lev, matchM (outT o) (someOf fal cost lev), S), rfl, ⟨ho0.same kd, ok, sk, ed _ _ hDc, hso, hso12, hwd, hwi, hS, hdead⟩, fun v He hv => ?_⟩
    obtain ⟨ee, t, l1, l2, rfl, ht, hl1, hl2, hri⟩ := hv
    have hcE : Chg [a, b] H9 He := fun x u n e => ee _ _ (ed _ _ (hsc _ _ (hc _ _ n e)))
    have hls : He ls = some (.lst ((someOf fal cost lev).map V.str)) := ee _ _ (ed _ _ hDc)
    have hae := ee _ _ (ed _ _ (hsc _ _ hwa))
    have hbe := ee _ _ (ed _ _ (hsc _ _ hwb))
    have hl1 : He l1 = some (.lst ((reachAt (outT o) (someOf fal cost lev)).ones.map V.str)) := hl1
    have hl2 : He l2 = some (.lst ((reachAt (outT o) (someOf fal cost lev)).others.map V.str)) := hl2
    have hri : RInv (outT o) (o.map (·.1)) (matchM (outT o) (someOf fal cost lev)) S (reachAt (outT o) (someOf fal cost lev)) := hri
    have hoS : ∀ z ∈ (reachAt (outT o) (someOf fal cost lev)).others, z ∈ o.map (·.1) := fun z hz => closed_sub hwi hS z (hri.sub z hz)
    unfold stepPr
    dsimp only
    generalize reachAt (outT o) (someOf fal cost lev) = rr at hl1 hl2 hri hoS
    generalize someOf fal cost lev = so at hso hson hso12 hls
    have nlist : ∀ q xs, He q = some (.lst xs) → q ∉ [a, b] := fun q xs e => not2 (fun z => by rw [z, hae] at e; cases e) (fun z => by rw [z, hbe] at e; cases e)
    refine ⟨t, _, rfl, SqT.of ht, rfl, _, _, rfl, _, _, rfl, rfl, ?_⟩
    have hσc : Sl [5, 6, 7, 8, 9, 10] σ0 ((σb.set 9 (some (.ref l1))).set 10 (some (.ref l2))) := (hσb.set (by decide)).set (by decide)
    have v10 : ((σb.set 9 (some (.ref l1))).set 10 (some (.ref l2)))[10]? = some (some (.ref l2)) := (hσb.set (by decide)).s
    have v9 : ((σb.set 9 (some (.ref l1))).set 10 (some (.ref l2)))[9]? = some (some (.ref l1)) := by
      rw [List.getElem?_set_ne (by decide)]
      exact hσb.s
    have v8 : ((σb.set 9 (some (.ref l1))).set 10 (some (.ref l2)))[8]? = some (some (.ref ls)) := by
      rw [List.getElem?_set_ne (by decide), List.getElem?_set_ne (by decide)]
      exact u8
    have v7 : ((σb.set 9 (some (.ref l1))).set 10 (some (.ref l2)))[7]? = some (some (.int lev)) := by
      rw [List.getElem?_set_ne (by decide), List.getElem?_set_ne (by decide)]
      exact u7
    have v6 : ((σb.set 9 (some (.ref l1))).set 10 (some (.ref l2)))[6]? = some (some (.int P0.low)) := by
      rw [List.getElem?_set_ne (by decide), List.getElem?_set_ne (by decide)]
      exact u6
    show tSeq _ _ _ ((σb.set 9 (some (.ref l1))).set 10 (some (.ref l2))) He
    generalize (σb.set 9 (some (.ref l1))).set 10 (some (.ref l2)) = σc at hσc v10 v9 v8 v7 v6
    refine ⟨_, v8, ls, rfl, ⟨_, SqL.of hls⟩, ?_⟩
    have lo0 : ∀ (σ : L2.St), Sl [5] σc σ → Sl [5, 6, 7, 8, 9, 10] σ0 σ := fun σ h => ⟨h.len.trans hσc.len, fun j hj => (h.at' j fun q => hj (by rw [List.mem_singleton.mp q]; simp)).trans (hσc.at' j hj)⟩
    refine for_it (wl (K := K) (a := ls) so V.str) (fun j σ H' => Chg [a, b] He H' ∧ Sl [5] σc σ ∧ H' a = some (.dK (dmap V.int (fmap (o.map (·.1)) fun x => if x ∈ so.take j ∧ x ∉ rr.ones then P0.wi x + (lev - P0.low) else P0.wi x))) ∧ H' b = some (.dK (dmap V.int (fmap (o.map (·.1)) P0.wo))))
      ⟨Chg.refl, Sl.refl, by rw [hae]; refine congrArg (fun q => some (HO.dK (dmap V.int q))) (fmap_congr fun x _ => (if_neg (fun z => by cases z.1)).symm), hbe⟩ (fun j σ H' _ h => SqL.of (h.1 _ _ (nlist _ _ hls) hls)) ?_ ?_
    · rintro j v σ Hf Hg hj ⟨hcf, hσf, haf, hbf⟩ ⟨hH, x, hx, rfl⟩
      subst hH
      have hxm : x ∈ so := List.mem_of_getElem? hx
      have hxo := hso x hxm
      have hxt : x ∉ so.take j := take_notin hson hx
      have hσg : Sl [5] σc (σ.set 5 (some (.str x))) := hσf.set (by decide)
      refine ⟨_, hσf.s (by rw [hσc.len]; rfl), _, hσg.g 9 (by decide) v9, l1, _, rfl, .inl (SqL.of (hcf _ _ (nlist _ _ hl1) hl1)), rfl, flat_strs _, _, rfl, ?_⟩
      rw [if_pos rfl, inV_str]
      have mt : ∀ y, y ∈ so.take (j + 1) ↔ y ∈ so.take j ∨ y = x := fun y => by
        rw [take_snoc hx, List.mem_append, List.mem_singleton]
      by_cases hm : x ∈ rr.ones
      · rw [decide_eq_true hm]
        refine iteF ⟨hcf, hσg, ?_, hbf⟩
        rw [haf]
        refine congrArg (fun q => some (HO.dK (dmap V.int q))) (fmap_congr fun y _ => ?_)
        by_cases hy : y ∈ so.take j ∧ y ∉ rr.ones
        · rw [if_pos hy, if_pos ⟨(mt y).mpr (.inl hy.1), hy.2⟩]
        · rw [if_neg hy, if_neg fun z => hy ⟨((mt y).mp z.1).resolve_right fun q => z.2 (by rw [q]; exact hm), z.2⟩]
      · rw [decide_eq_false hm]
        refine iteT ?_
        have hin : x ∈ o.map (·.1) := hxo
        refine ⟨_, (lo0 _ hσg).g 3 (by decide) rfl, _, hσf.s (by rw [hσc.len]; rfl), a, _, rfl, dget haf (look_fmap hxo), _, hσg.g 7 (by decide) v7, _, hσg.g 6 (by decide) v6, _, _, rfl, rfl, _, _, rfl, rfl, _, dput (g := V.int) haf (by rw [fmap_keys]; exact hnn) (by unfold fmap; rw [List.length_map]; omega) x _, ?_⟩
        rw [put_fmap hnn hxo]
        refine ⟨Chg.upd hcf (by simp), hσg, ?_, (upd_ne nab.symm).trans hbf⟩
        rw [upd_same]
        refine congrArg (fun q => some (HO.dK (dmap V.int q))) (fmap_congr fun y _ => ?_)
        by_cases hyx : y = x
        · rw [if_pos hyx, if_neg (fun z => hxt z.1), hyx, if_pos ⟨(mt x).mpr (.inr rfl), hm⟩]
        · rw [if_neg hyx]
          by_cases hy : y ∈ so.take j ∧ y ∉ rr.ones
          · rw [if_pos hy, if_pos ⟨(mt y).mpr (.inl hy.1), hy.2⟩]
          · rw [if_neg hy, if_neg fun z => hy ⟨((mt y).mp z.1).resolve_right hyx, z.2⟩]
    rintro σd Hf ⟨hcf, hσd, haf, hbf⟩
    rw [List.take_length] at haf
    have nlist2 : ∀ q xs, He q = some (.lst xs) → Hf q = some (.lst xs) := fun q xs e => hcf _ _ (nlist _ _ e) e
    refine ⟨_, hσd.g 10 (by decide) v10, l2, rfl, ⟨_, SqL.of (nlist2 _ _ hl2)⟩, ?_⟩
    refine for_it (wl (K := K) (a := l2) rr.others V.str) (fun j σ H' => Chg [a, b] He H' ∧ Sl [5] σc σ ∧ H' a = Hf a ∧ H' b = some (.dK (dmap V.int (fmap (o.map (·.1)) fun x => if x ∈ rr.others.take j then P0.wo x + (lev - P0.low) else P0.wo x))))
      ⟨hcf, hσd, rfl, by rw [hbf]; refine congrArg (fun q => some (HO.dK (dmap V.int q))) (fmap_congr fun x _ => (if_neg (fun z => by cases z)).symm)⟩ (fun j σ H' _ h => SqL.of (h.1 _ _ (nlist _ _ hl2) hl2)) ?_ ?_
    · rintro j v σ Hg Hh hj ⟨hcg, hσf, hag, hbg⟩ ⟨hH, x, hx, rfl⟩
      subst hH
      have hxm : x ∈ rr.others := List.mem_of_getElem? hx
      have hxo := hoS x hxm
      have hxt : x ∉ rr.others.take j := take_notin hri.nd hx
      have hσg : Sl [5] σc (σ.set 5 (some (.str x))) := hσf.set (by decide)
      have mt : ∀ y, y ∈ rr.others.take (j + 1) ↔ y ∈ rr.others.take j ∨ y = x := fun y => by
        rw [take_snoc hx, List.mem_append, List.mem_singleton]
      refine ⟨_, (lo0 _ hσg).g 4 (by decide) rfl, _, hσf.s (by rw [hσc.len]; rfl), b, _, rfl, dget hbg (look_fmap hxo), _, hσg.g 7 (by decide) v7, _, hσg.g 6 (by decide) v6, _, _, rfl, rfl, _, _, rfl, rfl, _, dput (g := V.int) hbg (by rw [fmap_keys]; exact hnn) (by unfold fmap; rw [List.length_map]; omega) x _, ?_⟩
      rw [put_fmap hnn hxo]
      refine ⟨Chg.upd hcg (by simp), hσg, (upd_ne nab).trans hag, ?_⟩
      rw [upd_same]
      refine congrArg (fun q => some (HO.dK (dmap V.int q))) (fmap_congr fun y _ => ?_)
      by_cases hyx : y = x
      · rw [if_pos hyx, if_neg hxt, hyx, if_pos ((mt x).mpr (.inr rfl))]
      · rw [if_neg hyx]
        by_cases hy : y ∈ rr.others.take j
        · rw [if_pos hy, if_pos ((mt y).mpr (.inl hy))]
        · rw [if_neg hy, if_neg fun z => hy (((mt y).mp z).resolve_right hyx)]
    rintro σe Hg ⟨hcg, hσe, hag, hbg⟩
    rw [List.take_length] at hbg
    refine ⟨_, hσe.g 7 (by decide) v7, Chg.trans hcE hcg, (lo0 _ hσe).set (by decide), (lo0 _ hσe).s, ?_, hbg⟩
    rw [hag, haf]
  · rintro σ Ha ⟨hc, hσ, s6, hwa, hwb⟩
    rw [List.take_length, elv] at hwa hwb
    exact ⟨_, hσ.g 3 (by decide) rfl, _, hσ.g 4 (by decide) rfl, small 2 (by decide), fun t ht => k _ _ ⟨fun x u e => same_new ht _ _ _ (keep9 _ hc _ _ e), t, a, b, rfl, upd_same, ha, hb0, nab, same_new ht _ _ _ hwa, same_new ht _ _ _ hwb⟩⟩
end
end BX
end
section
set_option Elab.async false
set_option linter.all false
set_option maxRecDepth 100000
set_option maxHeartbeats 4000000
namespace BX
open PySem PySem.Spec PyProof.Rows L2
open C8 (Cal Mak Met pe_c pe_mk pe_mt pe_mt0 pe_gc)
/-! ### the table of a heap's rows -/
theorem paired_mem {α β : Type} {F : α → β → Prop} : ∀ {l : List α} {m : List β}, Paired F l m → ∀ {b : β}, b ∈ m → ∃ a ∈ l, F a b
  | _, _, .nil, b, h => by cases h
  | _, _, .cons r t, b, h => by
    rcases List.mem_cons.mp h with e | e
    · exact ⟨_, List.mem_cons_self, e ▸ r⟩
    · obtain ⟨a, h1, h2⟩ := paired_mem t e
      exact ⟨a, List.mem_cons_of_mem _ h1, h2⟩
theorem look_out {spare : Int} {rs : List Row} {x : Str} {ys : List Str} (h : KM.look (outOf spare rs) x = some ys) : ∃ r ∈ rs, r.name = x ∧ ys = (rs.filter (goesR spare r)).map Row.name := by
  have := KM.look_some_mem h
  unfold outOf at this
  obtain ⟨r, hr, e⟩ := List.mem_map.mp this
  exact ⟨r, hr, congrArg Prod.fst e, (congrArg Prod.snd e).symm⟩
theorem out_keys (spare : Int) (rs : List Row) : (outOf spare rs).map (·.1) = rs.map Row.name := by
  unfold outOf
  rw [List.map_map]
  rfl
theorem tab_out {rs : List Row} (ok : RowsOk rs) (spare : Int) : TabOk (outOf spare rs) := by
  refine ⟨fun x ys h y hy => ?_, ?_, ?_, fun x ys h => ?_⟩
  · obtain ⟨r, hr, _, rfl⟩ := look_out h
    rw [out_keys]
    obtain ⟨q, hq, e⟩ := List.mem_map.mp hy
    rw [← e]
    exact List.mem_map_of_mem (List.mem_filter.mp hq).1
  · unfold outOf
    rw [List.length_map]
    exact ok.l12
  · rw [out_keys]
    exact ok.nd
  · obtain ⟨r, hr, _, rfl⟩ := look_out h
    rw [List.length_map]
    exact Nat.le_trans (List.length_filter_le _ _) ok.l12
theorem name_sok {x : Str} (h : NameOk x) : SOk x := by
  unfold SOk
  simp only [PyData.canLay0]
  show x.cps.all (· < 0x110000) = true
  rw [Array.all_eq_true]
  intro i hi
  have hm : x.cps[i] ∈ x.cps.toList := by simp
  have h2 : ∀ c ∈ letters.cps.toList, decide (c < 0x110000) = true := by decide +kernel
  exact h2 _ (h.al _ hm)
theorem rows_sok {rs : List Row} (ok : RowsOk rs) (spare : Int) : ∀ x ∈ (outOf spare rs).map (·.1), SOk x := fun x hx => by
  rw [out_keys] at hx
  obtain ⟨r, hr, e⟩ := List.mem_map.mp hx
  rw [← e]
  exact name_sok (ok.ok r hr).nm
theorem row_unique {rs : List Row} (hn : (rs.map Row.name).Nodup) {r q : Row} (hr : r ∈ rs) (hq : q ∈ rs) (e : r.name = q.name) : r = q := by
  obtain ⟨i, hi⟩ := List.mem_iff_getElem?.mp hr
  obtain ⟨j, hj⟩ := List.mem_iff_getElem?.mp hq
  have a1 : (rs.map Row.name)[i]? = some r.name := by rw [List.getElem?_map, hi]; rfl
  have a2 : (rs.map Row.name)[j]? = some r.name := by rw [List.getElem?_map, hj, e]; rfl
  have := nodup_at hn a1 a2
  subst this
  exact Option.some.inj (hi.symm.trans hj)
/-- the least side of a name's row -/
def loN (rs : List Row) (x : Str) : Int := ((rs.find? fun r => decide (r.name = x)).map Row.lo).getD 0
theorem loN_row {rs : List Row} (hn : (rs.map Row.name).Nodup) {r : Row} (hr : r ∈ rs) : loN rs r.name = r.lo := by
  unfold loN
  cases h : rs.find? fun q => decide (q.name = r.name) with
  | none =>
    have := List.find?_eq_none.mp h r hr
    simp at this
  | some q =>
    have h1 : q ∈ rs := List.mem_of_find?_eq_some h
    have h2 : q.name = r.name := by simpa using List.find?_some h
    rw [row_unique hn h1 hr h2]
    rfl
theorem ranked_lo (r : Row) : ranked r.a r.b r.c = [r.hi, r.a + r.b + r.c - r.lo - r.hi, r.lo] := rfl
theorem goes_lo {spare : Int} {r q : Row} (hs : 0 ≤ spare) (hw : 1 ≤ q.wall) (h : goesR spare r q = true) : r.lo < q.lo := by
  unfold goesR at h
  simp only [Bool.and_eq_true] at h
  have h4 := h.2.2.2
  unfold fitsR at h4
  have := List.all_eq_true.mp h4 (min r.a (min r.b r.c), min (q.a - 2 * q.wall) (min (q.b - 2 * q.wall) (q.c - 2 * q.wall))) (by simp [ranked])
  simp only [decide_eq_true_eq] at this
  unfold Row.lo
  omega
theorem out_goes {spare : Int} {rs : List Row} (hn : (rs.map Row.name).Nodup) {x y : Str} (h : y ∈ outT (outOf spare rs) x) : ∃ r ∈ rs, ∃ q ∈ rs, r.name = x ∧ q.name = y ∧ goesR spare r q = true := by
  unfold outT at h
  cases e : KM.look (outOf spare rs) x with
  | none =>
    rw [e] at h
    cases h
  | some ys =>
    rw [e] at h
    obtain ⟨r, hr, rfl, rfl⟩ := look_out e
    obtain ⟨q, hq, rfl⟩ := List.mem_map.mp (show y ∈ (rs.filter (goesR spare r)).map Row.name from h)
    exact ⟨r, hr, q, (List.mem_filter.mp hq).1, rfl, rfl, (List.mem_filter.mp hq).2⟩
theorem goes_out {spare : Int} {rs : List Row} (hn : (rs.map Row.name).Nodup) {r q : Row} (hr : r ∈ rs) (hq : q ∈ rs) (h : goesR spare r q = true) : q.name ∈ outT (outOf spare rs) r.name := by
  have hm : (r.name, (rs.filter (goesR spare r)).map Row.name) ∈ outOf spare rs := List.mem_map.mpr ⟨r, hr, rfl⟩
  unfold outT
  rw [KM.look_of_mem (by rw [out_keys]; exact hn) hm]
  exact List.mem_map_of_mem (List.mem_filter.mpr ⟨hq, h⟩)
theorem filter_lt {α : Type} {p q : α → Bool} {x : α} : ∀ {l : List α}, (∀ z ∈ l, p z = true → q z = true) → x ∈ l → p x = false → q x = true → (l.filter p).length < (l.filter q).length
  | [], _, h, _, _ => by cases h
  | z :: l, hs, hx, h1, h2 => by
    have le : ∀ m : List α, (∀ z ∈ m, p z = true → q z = true) → (m.filter p).length ≤ (m.filter q).length := fun m => by
      induction m with
      | nil => exact fun _ => Nat.le_refl _
      | cons y m ih =>
        intro h
        have := ih fun z hz => h z (List.mem_cons_of_mem y hz)
        rw [List.filter_cons, List.filter_cons]
        cases hp : p y with
        | true =>
          rw [if_pos rfl, if_pos (h y List.mem_cons_self hp), List.length_cons, List.length_cons]
          omega
        | false =>
          rw [if_neg (by decide)]
          split
          · rw [List.length_cons]
            omega
          · exact this
    rw [List.filter_cons, List.filter_cons]
    rcases List.mem_cons.mp hx with e | e
    · rw [← e, h1, h2, if_neg (by decide), if_pos rfl, List.length_cons]
      have := le l fun z hz => hs z (List.mem_cons_of_mem _ hz)
      omega
    · have := filter_lt (l := l) (fun z hz => hs z (List.mem_cons_of_mem _ hz)) e h1 h2
      cases hp : p z with
      | true =>
        rw [if_pos rfl, if_pos (hs z List.mem_cons_self hp), List.length_cons, List.length_cons]
        omega
      | false =>
        rw [if_neg (by decide)]
        split
        · rw [List.length_cons]
          omega
        · exact this
theorem ranked_of {rs : List Row} (ok : RowsOk rs) {spare : Int} (hs : 0 ≤ spare) {wm : KM.W Str} (hw : ∀ z m, KM.look wm z = some m → z ∈ outT (outOf spare rs) m) : Ranked wm := by
  refine ⟨fun x => (rs.filter fun r => decide (r.lo < loN rs x)).length, fun x => ?_, fun z m h => ?_⟩
  · have := List.length_filter_le (fun r : Row => decide (r.lo < loN rs x)) rs
    have := ok.l12
    show (rs.filter fun r => decide (r.lo < loN rs x)).length < 13
    omega
  · obtain ⟨r, hr, q, hq, rfl, rfl, hg⟩ := out_goes ok.nd (hw z m h)
    have hlt := goes_lo hs (ok.ok q hq).wl.1 hg
    show (rs.filter fun s => decide (s.lo < loN rs r.name)).length < (rs.filter fun s => decide (s.lo < loN rs q.name)).length
    rw [loN_row ok.nd hr, loN_row ok.nd hq]
    refine filter_lt (x := r) (fun s _ h1 => ?_) hr ?_ ?_
    · have h1 := of_decide_eq_true h1
      exact decide_eq_true (by omega)
    · exact decide_eq_false (by omega)
    · exact decide_eq_true hlt
def falM (names : List Str) (cost : Str → Int) : List Str := names.mergeSort fun y z => decide (0 - cost y ≤ 0 - cost z)
theorem fal_perm (names : List Str) (cost : Str → Int) : (falM names cost).Perm names := List.mergeSort_perm _ _
section
variable {P : Program} {w : World} {K : PySem.W.Frag} {mg : Str → Option Value} {base : Heap}
/-- costs for all of rs -/
structure CostsOk (cs : List (Str × Int)) (rs : List Row) : Prop where
  len : cs.length = rs.length
  all : ∀ r ∈ rs, ∃ c, KM.look cs r.name = some c ∧ 0 ≤ c ∧ c ≤ 1000000
def costOf (cs : List (Str × Int)) (x : Str) : Int := (KM.look cs x).getD 0
def spNums : Sp := SpG (G := Addr × Addr × Addr × List Addr × List Row × List (Str × Int)) (fun (p, d, _, _, _, _) => [.ref p, .ref d, .int 0, .int 1000000]) (fun (p, d, L, as, rs, cs) H => HeapR K H p L as rs ∧ rs.length ≤ 12 ∧ H d = some (.dK (dmap V.int cs)) ∧ CostsOk cs rs)
  (fun _ H v H' => Same H H' ∧ v = .bl true)
abbrev N_are_numbers : List PySem.Str := ["heap", "thing", "low", "high", "name"]
theorem sc_are_numbers : FnScope N_are_numbers ["heap", "thing", "low", "high"] d_are_numbers.scope := ⟨rfl, rfl, rfl, by decide +kernel, rfl, by decide +kernel, by decide +kernel⟩
theorem c_are_numbers (T : TX K mg) : Cal P w K mg base 3 "are_numbers" (spNums (K := K)) [] := by
  refine calD T T.f_are_numbers rfl T.g_are_numbers (bindsN rfl fun _ _ _ _ _ _ us hl => match us, hl with | [_, _, _, _], _ => rfl) sc_are_numbers (fun _ => rfl) fun cdv A outer s0 H Q E f g hr hp k => ?_
  obtain ⟨p, d, L, as, rs, cs⟩ := g
  obtain ⟨hh, h12, hd, ok⟩ := hp
  obtain ⟨dx, h1⟩ := hh.ob
  refine ⟨_, (pss_cons (ps_if (PW.pt (pw_or (pt_not (pt_val (pe_callB (isiK K rfl) rfl T.n_isinstance b_isinstance (pa_cons (pv 1) (pa_cons (pe_bltn (v := .ty "dict") rfl T.n_dict b_dict rfl) pa_nil))))) (pw_or1 (pt_cmpR (op_ne) (pe_callB (call_lenD) rfl T.n_len b_len (pa_cons (pv 1) pa_nil)) (pe_callB (call_lenOwn (c_Heap_len T) hr (by decide)) rfl T.n_len b_len (pa_cons (pv 0) pa_nil)) (nomark _))))) (pss_one (ps_ret pe_bl)) pss_nil)
    (pss_one (ps_ret (pe_callB (cr_all rfl) rfl T.n_all b_all (pa_cons (pe_lc (own := [("name", 4)]) rfl sc_are_numbers.nd (pi_listK K rfl (pe_mt0 (c_Heap_names T) hr (by decide) (pv 0))) (blkOk_by (own := [("name", 4)]) (N := N_are_numbers) (sc := d_are_numbers.scope) (by decide +kernel)) (fun _ _ _ _ _ => (pg_name (i := 4) sc_are_numbers.nd rfl (Or.inl rfl))) (fun _ _ _ _ _ => pts_nil) (fun _ _ _ _ _ => (pe_and (pe_cmp (pc_din (hu_of hr) (pv 4) (pv 1)) rfl) (pe_one (pe_c (c_is_whole T) hr (by decide) rfl (pa_cons (pe_dget (hu_of hr) (pv 1) (pv 4) (fun _ _ => rfl)) (pa_cons (pv 2) (pa_cons (pv 3) pa_nil)))))))) pa_nil))))), ?_⟩
  refine ⟨_, rfl, _, _, _, _, true, rfl, .ty _, ty_dK hd, kit_ty (by decide +kernel), _, rfl, iteF ?_⟩
  refine ⟨_, rfl, d, _, rfl, hd, _, rfl, p, dx, _, rfl, h1, (p, L, as, rs), rfl, hh, fun v H1 hv => ?_⟩
  obtain ⟨rfl, hH⟩ := hv
  subst hH
  refine ⟨rs.length, rfl, by omega, rfl, false, ?_, iteF ?_⟩
  · refine congrArg V.bl ?_
    unfold dmap
    rw [List.length_map, ok.len, decide_eq_true rfl]
    rfl
  refine ⟨_, rfl, p, dx, _, rfl, h1, rfl, (p, L, as, rs), rfl, ⟨hh, h12⟩, fun v H2 hv => ?_⟩
  obtain ⟨e2, l, rfl, hl0, hl⟩ := hv
  refine ⟨l, rfl, ⟨_, SqL.of hl⟩, fun D hD => ?_⟩
  refine lc_map (J := Itl _ l) (l := rs.map Row.name) V.str (fun _ => V.bl true) (wl (rs.map Row.name) V.str) (fun _ e => sg hl e) (by rw [List.length_map]; omega) hD ?_ gN ?_
  · intro x H' hx hs Qy y
    obtain ⟨r, hr', e⟩ := List.mem_map.mp hx
    obtain ⟨c, hc, c0, c1⟩ := ok.all r hr'
    rw [e] at hc
    have hd' := hs _ _ (e2 _ _ hd)
    refine ⟨wipe1, _, rfl, _, rfl, d, _, rfl, dget hd' hc, _, rfl, iteT ?_⟩
    refine ⟨_, rfl, _, rfl, d, _, rfl, dget hd' hc, _, rfl, _, rfl, (c, 0, 1000000), rfl, trivial, fun v H5 hv => ?_⟩
    obtain ⟨rfl, hH⟩ := whole_ok hv c0 c1
    exact y _ fun _ _ h => by rw [hH]; exact h
  intro H3 hs hD3
  refine ⟨D, (rs.map Row.name).map fun _ => true, rfl, SqL.of (by rw [hD3, List.map_map, List.map_map, List.map_map]; rfl), k _ _ ⟨fun b o e => hs _ _ (e2 _ _ e), ?_⟩⟩
  refine congrArg V.bl ?_
  rw [List.all_map]
  exact List.all_eq_true.mpr fun _ _ => rfl
def spNeedC : Sp := SpG (G := Addr × Addr × Addr × List Addr × List Row × List (Str × Int)) (fun (p, d, _, _, _, _) => [.ref p, .ref d]) (fun (p, d, L, as, rs, cs) H => HeapR K H p L as rs ∧ rs.length ≤ 12 ∧ H d = some (.dK (dmap V.int cs)) ∧ CostsOk cs rs)
  (fun _ H v H' => Same H H' ∧ v = .non)
abbrev N_need_costs : List PySem.Str := ["heap", "costs"]
theorem sc_need_costs : FnScope N_need_costs ["heap", "costs"] d_need_costs.scope := ⟨rfl, rfl, rfl, by decide +kernel, rfl, by decide +kernel, by decide +kernel⟩
theorem c_need_costs (T : TX K mg) : Cal P w K mg base 4 "need_costs" (spNeedC (K := K)) [] := by
  refine calD T T.f_need_costs rfl T.g_need_costs (bindsN rfl fun _ _ _ _ _ _ us hl => match us, hl with | [_, _], _ => rfl) sc_need_costs (fun _ => rfl) fun cdv A outer s0 H Q E f g hr hp k => ?_
  obtain ⟨p, d, L, as, rs, cs⟩ := g
  refine ⟨_, (pss_one (ps_if (pt_not (pt_val (pe_c (c_are_numbers T) hr (by decide) rfl (pa_cons (pv 0) (pa_cons (pv 1) (pa_cons pe_int (pa_cons (pe_gc rfl T.v_MOST_COST) pa_nil))))))) (pss_one ps_never) pss_nil)), ?_⟩
  refine ⟨_, rfl, _, rfl, (p, d, L, as, rs, cs), rfl, hp, fun v H1 hv => ?_⟩
  obtain ⟨e, rfl⟩ := hv
  exact ⟨_, rfl, iteF (k _ _ ⟨e, rfl⟩)⟩
end
end BX
end
section
set_option Elab.async false
set_option linter.all false
set_option maxRecDepth 100000
set_option maxHeartbeats 4000000
namespace BX
open PySem PySem.Spec PyProof.Rows L2 LamX
open C8 (Cal Mak Met pe_c pe_mk pe_mt pe_mt0 pe_gc)
section
variable {P : Program} {w : World} {K : PySem.W.Frag} {mg : Str → Option Value} {base : Heap}
theorem paired_memL {α β : Type} {F : α → β → Prop} : ∀ {l : List α} {m : List β}, Paired F l m → ∀ {a : α}, a ∈ l → ∃ b, F a b
  | _, _, .nil, a, h => by cases h
  | _, _, .cons r t, a, h => by
    rcases List.mem_cons.mp h with e | e
    · exact ⟨_, e ▸ r⟩
    · exact paired_memL t e
/-- a def of the top, its code object known -/
theorem calDc {G : Type} {args : G → List V} {pre : G → Hp → Prop} {post : G → Hp → V → Hp → Prop} {x : Str} {d : He.DefD} {N ps : List Str} {dvs : List V} {k : Nat} (T : TX K mg)
    (F : ∃ fd, FunD K d.name d.qual d.params d.body d.scope (d.dvs K) (d.kws K) (He.fAd K d.at_) fd) (hat : He.fAd K d.at_ = He.ga K x) (hg : mg x = some (.ref (He.ga K x)))
    (hb : BindsD K d ps dvs)
    (S : FnScope N ps d.scope) (len : ∀ g, (args g).length = ps.length)
    (hbody : ∀ (A : Around) (outer : List Env) (s : Shared) (H : Hp) (Q : VK) (E : XK) (f : Addr) (g : G), Room k (A.deeper (envOfC d.qual d.scope s.heap.objs.size f (.ref (He.codeOf K d.at_)))) → pre g H → (∀ v H', post g H v H' → Q v H') →
      ∃ t, PSs (cxOf CX0 P w K mg base N d.qual d.scope f (.ref (He.codeOf K d.at_)) A outer s H E).nox d.body t ∧ t { nx := fun _ H' => Q .non H', rt := Q } (L2.start N (args g)) H) : Cal P w K mg base (k + 1) x (SpG args pre post) dvs := by
  obtain ⟨fd, F⟩ := F
  obtain ⟨ds, hd, hB⟩ := hb fd F
  have kp := F.kp
  obtain ⟨oc, od, dV, kV, doc, pm, an, cdv, ct, osl, hfd, lk, hcd, _, _⟩ := F.ex
  subst hfd
  have hc : ∃ c, cdv = .ref c := by
    unfold PySem.W.codeIn at hcd
    split at hcd
    · exact ⟨_, rfl⟩
    · cases hcd
  obtain ⟨c, rfl⟩ := hc
  have ec : He.codeOf K d.at_ = c := He.codeOf_eq lk rfl
  rw [ec] at hbody
  have FO := fn_of (CX := CX0) (P := P) (w := w) (mg := mg) (base := base) (N := N) (k := k) (sp := SpG args pre post) lk hcd S (fun vs H Q E h => by
    obtain ⟨g, rfl, _⟩ := h
    exact len g) fun A outer s H vs Q E hr h => by
    obtain ⟨g, rfl, hp, q⟩ := h
    obtain ⟨t, h1, h2⟩ := hbody A outer s H Q E _ g hr hp q
    exact ⟨t, h1.nox, h2⟩
  rw [hat] at FO kp
  exact ⟨He.ga K x, _, ps, ds, FO, hg, kp, hB, hd⟩
/-! ### without the tables -/
def nt (H : Hp) : Hp := fun b => match H b with
  | some (.tbl _) => none
  | o => o
theorem nt_of {H : Hp} {b : Addr} {o : HO} (h : H b = some o) (n : ∀ ps, o ≠ .tbl ps) : nt H b = some o := by
  unfold nt
  rw [h]
  cases o with
  | tbl ps => exact absurd rfl (n ps)
  | _ => rfl
theorem nt_to {H : Hp} {b : Addr} {o : HO} (h : nt H b = some o) : H b = some o ∧ ∀ ps, o ≠ .tbl ps := by
  unfold nt at h
  cases e : H b with
  | none =>
    rw [e] at h
    cases h
  | some u =>
    rw [e] at h
    cases u with
    | tbl ps => cases h
    | _ =>
      cases h
      exact ⟨rfl, fun ps z => by cases z⟩
theorem nt_same {H H' : Hp} (e : ExtN H H') : Same (nt H) H' := fun b o h => by
  obtain ⟨h1, h2⟩ := nt_to h
  exact e b o h1 h2
theorem ext_of {H H' : Hp} (e : Same H H') : ExtN H H' := fun b o h _ => e b o h
theorem OutAt.nt {H : Hp} {d : Addr} {o : List (Str × List Str)} (h : OutAt H d o) : OutAt (BX.nt H) d o := by
  obtain ⟨kvs, h1, h2⟩ := h
  exact ⟨kvs, nt_of h1 (fun ps z => by cases z), Paired.mapP h2 fun kv p ⟨q1, l, q2, q3⟩ => ⟨q1, l, q2, nt_of q3 (fun ps z => by cases z)⟩⟩
theorem SidesAt.nt {H : Hp} {p : Addr} {x y z : Int} (h : SidesAt K H p x y z) : SidesAt K (BX.nt H) p x y z := by
  obtain ⟨dx, t, h1, h2⟩ := h
  exact ⟨dx, t, nt_of h1 (fun ps z => by cases z), nt_of h2 (fun ps z => by cases z)⟩
theorem ParcelAt.nt {H : Hp} {p : Addr} {r : Row} (h : ParcelAt K H p r) : ParcelAt K (BX.nt H) p r := by
  obtain ⟨dx, s, l, h1, h2, h3⟩ := h
  exact ⟨dx, s, l, nt_of h1 (fun ps z => by cases z), h2.nt, nt_of h3 (fun ps z => by cases z)⟩
theorem HeapR.nt {H : Hp} {p L : Addr} {as : List Addr} {rs : List Row} (h : HeapR K H p L as rs) : HeapR K (BX.nt H) p L as rs := by
  obtain ⟨dx, h1⟩ := h.ob
  exact ⟨⟨dx, nt_of h1 (fun ps z => by cases z)⟩, nt_of h.ls (fun ps z => by cases z), Paired.mapP h.ps fun a r q => q.nt⟩
theorem HeapR.ext {H H' : Hp} {p L : Addr} {as : List Addr} {rs : List Row} (e : ExtN H H') (h : HeapR K H p L as rs) : HeapR K H' p L as rs := h.nt.same (nt_same e)
/-! ### cheapest -/
/-- nothing but a table stood there -/
def Fresh (H : Hp) (b : Addr) : Prop := ∀ u, H b = some u → ∃ ps, u = .tbl ps
theorem Fresh.of {H H1 : Hp} {b : Addr} (e : ExtN H H1) (h : H1 b = none) : Fresh H b := fun u q => by
  by_cases n : ∃ ps, u = .tbl ps
  · exact n
  · have := e b u q fun ps z => n ⟨ps, z⟩
    rw [h] at this
    cases this
def cPair (K : PySem.W.Frag) : Addr × Addr := He.cT K ("cheapest", none)
def lamQ : Str := (envOfC d_cheapest.qual d_cheapest.scope 0 0 .none).qual ++ "<lambda>"
def tabsT (K : PySem.W.Frag) : List (Addr × Str) := [((cPair K).2, lamQ)]
structure Res where
  nests : List (List Str)
  wi : Str → Int
  wo : Str → Int
def cheapM (spare : Int) (rs : List Row) (cost : Str → Int) : Res :=
  ⟨nestsM (matchM (outT (outOf spare rs)) (falM (rs.map Row.name) cost)) (rs.map Row.name), (pricesM (outT (outOf spare rs)) (rs.map Row.name) (falM (rs.map Row.name) cost) cost).wi, (pricesM (outT (outOf spare rs)) (rs.map Row.name) (falM (rs.map Row.name) cost) cost).wo⟩
/-- what was told stands at t, all of it new since H0 -/
structure ResAt (H0 H : Hp) (t l a b : Addr) (as : List Addr) (names : List Str) (r : Res) : Prop where
  tp : H t = some (.tup [.ref l, .ref a, .ref b])
  ls : H l = some (.lst (as.map V.ref))
  ns : Paired (fun q n => H q = some (.lst (n.map V.str))) as r.nests
  wa : H a = some (.dK (dmap V.int (fmap names r.wi)))
  wb : H b = some (.dK (dmap V.int (fmap names r.wo)))
  fa : Fresh H0 a
  fb : Fresh H0 b
  fl : Fresh H0 l
  fs : ∀ q ∈ as, Fresh H0 q
  nl : l ≠ sysModules
  nq : ∀ q ∈ as, q ≠ sysModules
  nab : a ≠ b
  ql : l ∉ as
def spCheap : Sp := SpG (G := Addr × Addr × Addr × List Addr × List Row × List (Str × Int) × Int) (fun (p, d, _, _, _, _, sp) => [.ref p, .ref d, .int sp]) (fun (p, d, L, as, rs, cs, sp) H => HeapR K H p L as rs ∧ RowsOk rs ∧ H d = some (.dK (dmap V.int cs)) ∧ CostsOk cs rs ∧ 0 ≤ sp ∧ sp ≤ 1000 ∧ Tabs (tabsT K) H)
  (fun (p, d, L, as, rs, cs, sp) H v H' => ExtN H H' ∧ Tabs (tabsT K) H' ∧ ∃ t l a b qs, v = .ref t ∧ ResAt H H' t l a b qs (rs.map Row.name) (cheapM sp rs (costOf cs)))
abbrev N_cheapest : List PySem.Str := ["heap", "costs", "spare", "outwards", "falling", "within", "without"]
theorem sc_cheapest : FnScope N_cheapest ["heap", "costs", "spare"] d_cheapest.scope := ⟨rfl, rfl, rfl, by decide +kernel, rfl, by decide +kernel, by decide +kernel⟩
theorem cheapD (T : TX K mg) (TB : TabB base mg (cPair K).1 (cPair K).2) {dvs : List V} (hb : BindsD K d_cheapest ["heap", "costs", "spare"] dvs) : Cal P w K mg base 21 "cheapest" (spCheap (K := K)) dvs := by
  refine calDc T T.f_cheapest rfl T.g_cheapest hb sc_cheapest (fun _ => rfl) fun A outer s0 H Q E f g hr hp k => ?_
  obtain ⟨p, d, L, as, rs, cs, sp⟩ := g
  obtain ⟨hh, ok, hd, cok, hs0, hs1, hT⟩ := hp
  obtain ⟨dx, h1⟩ := hh.ob
  refine ⟨_, (pss_cons (ps_expr (pe_c (c_need_spare T) hr (by decide) rfl (pa_cons (pv 2) pa_nil)))
    (pss_cons (ps_expr (pe_c (c_need_costs T) hr (by decide) rfl (pa_cons (pv 0) (pa_cons (pv 1) pa_nil))))
    (pss_cons (ps_set (i := 3) sc_cheapest.nd rfl (Or.inl rfl) (pe_c (c_inside T) hr (by decide) rfl (pa_cons (pv 0) (pa_cons (pv 2) pa_nil))))
    (pss_cons (ps_set (i := 4) sc_cheapest.nd rfl (Or.inl rfl) (pe_sortLam (T := tabsT K) (x := "name") (d := "costs") (ic := 1) (k := 16) rfl rfl T.n_sorted b_sorted hr TB rfl List.mem_cons_self (fun q hq _ => by rw [List.mem_singleton.mp hq]; rfl) rfl rfl (by decide) rfl rfl rfl (pe_mt0 (c_Heap_names T) hr (by decide) (pv 0)) (fun _ _ _ _ _ _ => rfl)))
    (pss_cons (ps_asg (pe_c (c_prices_by T) hr (by decide) rfl (pa_cons (pv 3) (pa_cons (pv 4) (pa_cons (pv 1) pa_nil)))) (pg_tupK (n := 2) K rfl rfl (pgs_cons (pg_name (i := 5) sc_cheapest.nd rfl (Or.inl rfl)) (pgs_cons (pg_name (i := 6) sc_cheapest.nd rfl (Or.inl rfl)) pgs_nil))))
    (pss_one (ps_ret (pe_tup (pa_cons (pe_c (c_nests_by T) hr (by decide) rfl (pa_cons (pe_mt0 (c_Heap_names T) hr (by decide) (pv 0)) (pa_cons (pe_c (c_matched T) hr (by decide) rfl (pa_cons (pv 3) (pa_cons (pv 4) pa_nil))) pa_nil))) (pa_cons (pv 5) (pa_cons (pv 6) pa_nil))))))))))), ?_⟩
  refine ⟨_, rfl, sp, rfl, ⟨hs0, hs1⟩, fun v H0 hv => ?_⟩
  obtain ⟨rfl, hH⟩ := hv
  subst hH
  refine ⟨_, rfl, _, rfl, (p, d, L, as, rs, cs), rfl, ⟨hh, ok.l12, hd, cok⟩, fun v H2 hv => ?_⟩
  obtain ⟨e2, rfl⟩ := hv
  refine ⟨_, rfl, _, rfl, (p, L, as, rs, sp), rfl, ⟨hh.same e2, ok, hs0, hs1⟩, fun v H3 hv => ?_⟩
  obtain ⟨e3, dO, rfl, hO0, ho⟩ := hv
  have e03 : Same H0 H3 := fun b o e => e3 _ _ (e2 _ _ e)
  refine ⟨_, rfl, p, dx, _, rfl, e03 _ _ h1, rfl, (p, L, as, rs), rfl, ⟨hh.same e03, ok.l12⟩, fun v H4 hv => ?_⟩
  obtain ⟨e4, l4, rfl, hl40, hl4⟩ := hv
  have e04 : Same H0 H4 := fun b o e => e4 _ _ (e03 _ _ e)
  have hcost : ∀ x ∈ rs.map Row.name, KM.look cs x = some (costOf cs x) := fun x hx => by
    obtain ⟨r, hr', e⟩ := List.mem_map.mp hx
    obtain ⟨c, hc, _⟩ := cok.all r hr'
    rw [e] at hc
    unfold costOf
    rw [hc]
    rfl
  refine ⟨l4, d, rs.map Row.name, _, costOf cs, rfl, SqL.of hl4, rfl, e04 _ _ hd, fun x hx => ?_, hT.ext e04, fun pf H5 eN T5 hpf => ?_⟩
  · rw [valV_dmap, hcost x hx]
    rfl
  have e56 : Same H5 (upd H5 pf (.lst ((falM (rs.map Row.name) (costOf cs)).map V.str))) := same_new hpf _
  have hpf6 : upd H5 pf (.lst ((falM (rs.map Row.name) (costOf cs)).map V.str)) pf = _ := upd_same
  show tSeq _ _ _ (((L2.start N_cheapest [V.ref p, V.ref d, V.int sp]).set 3 (some (.ref dO))).set 4 (some (.ref pf))) (upd H5 pf (.lst ((falM (rs.map Row.name) (costOf cs)).map V.str)))
  generalize upd H5 pf (.lst ((falM (rs.map Row.name) (costOf cs)).map V.str)) = H6 at e56 hpf6
  have x46 : ExtN H4 H6 := eN.trans (ext_of e56)
  have x06 : ExtN H0 H6 := (ext_of e04).trans x46
  have T6 : Tabs (tabsT K) H6 := T5.ext e56
  have ho6 : OutAt H6 dO (outOf sp rs) := (ho.same e4).nt.same (nt_same x46)
  have hd6 : H6 d = some (.dK (dmap V.int cs)) := x06 _ _ hd (fun ps z => by cases z)
  have tok := tab_out ok sp
  have sok := rows_sok ok sp
  have hfp := fal_perm (rs.map Row.name) (costOf cs)
  have hfn : (falM (rs.map Row.name) (costOf cs)).Nodup := hfp.nodup_iff.mpr ok.nd
  have hfs : ∀ x ∈ falM (rs.map Row.name) (costOf cs), x ∈ (outOf sp rs).map (·.1) := fun x hx => by
    rw [out_keys]
    exact hfp.mem_iff.mp hx
  have ndd : dO ≠ d := fun z => by
    rw [z, e2 _ _ hd] at hO0
    cases hO0
  refine ⟨_, rfl, _, rfl, _, rfl, (dO, pf, d, outOf sp rs, falM (rs.map Row.name) (costOf cs), cs, costOf cs), rfl, ⟨ho6, tok, sok, ndd, hpf6, hfn, hfs, hd6, fun x hx => hcost x (by rw [out_keys] at hx; exact hx)⟩, fun v H7 hv => ?_⟩
  obtain ⟨e7, t7, a, b, rfl, ht7, ha0, hb0, nab, ha, hb⟩ := hv
  rw [out_keys] at ha hb
  have x07 : ExtN H0 H7 := x06.trans (ext_of e7)
  refine ⟨t7, _, rfl, SqT.of ht7, rfl, _, _, rfl, _, _, rfl, rfl, ?_⟩
  refine ⟨_, rfl, p, dx, _, rfl, x07 _ _ h1 (fun ps z => by cases z), rfl, (p, L, as, rs), rfl, ⟨hh.ext x07, ok.l12⟩, fun v H8 hv => ?_⟩
  obtain ⟨e8, l8, rfl, hl80, hl8⟩ := hv
  have e68 : Same H6 H8 := fun b o e => e8 _ _ (e7 _ _ e)
  refine ⟨_, rfl, _, rfl, (dO, pf, outOf sp rs, falM (rs.map Row.name) (costOf cs)), rfl, ⟨ho6.same e68, tok, e68 _ _ hpf6, hfs⟩, fun v H9 hv => ?_⟩
  obtain ⟨e9, wd, rfl, hwd0, hwd, hwi⟩ := hv
  have mi := match_mi tok _ hfn
  have hrk : Ranked (matchM (outT (outOf sp rs)) (falM (rs.map Row.name) (costOf cs))) := ranked_of ok hs0 fun z m h => mi.mw.ed z m h
  have hwl : (matchM (outT (outOf sp rs)) (falM (rs.map Row.name) (costOf cs))).length ≤ 12 := by
    have := hwi.len
    rw [out_keys, List.length_map] at this
    exact Nat.le_trans this ok.l12
  refine ⟨(l8, wd, rs.map Row.name, matchM (outT (outOf sp rs)) (falM (rs.map Row.name) (costOf cs))), rfl, ⟨e9 _ _ hl8, by rw [List.length_map]; exact ok.l12, hwd, hwl, hrk⟩, fun v H10 hv => ?_⟩
  obtain ⟨e10, q, rfl, hq0, hqs, qs, hqs1, hqs2⟩ := hv
  have x09 : ExtN H0 H9 := (x07.trans (ext_of e8)).trans (ext_of e9)
  have x0t : ExtN H0 H10 := x09.trans (ext_of e10)
  have e710 : Same H7 H10 := fun b o e => e10 _ _ (e9 _ _ (e8 _ _ e))
  have e610 : Same H6 H10 := fun b o e => e710 _ _ (e7 _ _ e)
  refine ⟨_, rfl, _, rfl, small 3 (by decide), fun t ht => k _ _ ⟨x0t.trans (ext_of (same_new ht _)), (T6.ext e610).ext (same_new ht _), t, q, a, b, qs, rfl, ?_⟩⟩
  have et := same_new ht (.tup [.ref q, .ref a, .ref b])
  refine ⟨upd_same, et _ _ hqs1, Paired.mapP hqs2 fun x n h => et _ _ h.2.2.2, et _ _ (e710 _ _ ha), et _ _ (e710 _ _ hb), Fresh.of x06 ha0, Fresh.of x06 hb0, Fresh.of x09 hq0, fun x hx => ?_, hqs, fun x hx => ?_, nab, fun hx => ?_⟩
  · obtain ⟨n, h⟩ := paired_memL hqs2 hx
    exact Fresh.of x09 h.1
  · obtain ⟨n, h⟩ := paired_memL hqs2 hx
    exact h.2.1
  · obtain ⟨n, h⟩ := paired_memL hqs2 hx
    exact h.2.2.1 rfl
theorem c_cheapest (T : TX K mg) (TB : TabB base mg (cPair K).1 (cPair K).2) : Cal P w K mg base 21 "cheapest" (spCheap (K := K)) [] :=
  cheapD T TB (binds1 3 1 (List.cons_ne_nil _ _) rfl fun _ _ _ _ _ _ _ us its hl hi => match us, hl, its, hi with | [_, _, _], _, [_], _ => ⟨_, rfl, rfl⟩)
theorem c_cheapest1 (T : TX K mg) (TB : TabB base mg (cPair K).1 (cPair K).2) : Cal P w K mg base 21 "cheapest" (spCheap (K := K)) [.int 0] :=
  cheapD T TB (binds1 2 0 (List.cons_ne_nil _ _) rfl fun _ _ _ _ _ _ _ us its hl hi => match us, hl, its, hi with | [_, _], _, [_], _ => ⟨_, rfl, rfl⟩)
end
end BX
end
section
set_option Elab.async false
set_option linter.all false
set_option maxRecDepth 100000
set_option maxHeartbeats 4000000
namespace BX
open PySem PySem.Spec PyProof.Rows L2
open C8 (Cal Mak Met pe_c pe_mk pe_mt pe_mt0 pe_gc)
/-! ### heaps without what is written, and what is new -/
def del (S : List Addr) (H : Hp) : Hp := fun b => if b ∈ S then none else H b
theorem del_to {S : List Addr} {H : Hp} {b : Addr} {o : HO} (h : del S H b = some o) : b ∉ S ∧ H b = some o := by
  unfold del at h
  by_cases hb : b ∈ S
  · rw [if_pos hb] at h
    cases h
  · rw [if_neg hb] at h
    exact ⟨hb, h⟩
theorem del_of {S : List Addr} {H : Hp} {b : Addr} {o : HO} (hb : b ∉ S) (h : H b = some o) : del S H b = some o := by
  unfold del
  rw [if_neg hb]
  exact h
theorem del_same {S : List Addr} {H : Hp} : Same (del S H) H := fun b o h => (del_to h).2
theorem del_mono {S T : List Addr} {H : Hp} (h : ∀ b ∈ S, b ∈ T) : Same (del T H) (del S H) := fun b o e => del_of (fun z => (del_to e).1 (h b z)) (del_to e).2
theorem del_chg {S T : List Addr} {H H' : Hp} (c : Chg S H H') (h : ∀ b ∈ S, b ∈ T) : Same (del T H) (del T H') := fun b o e => del_of (del_to e).1 (c b o (fun z => (del_to e).1 (h b z)) (del_to e).2)
def dif (H H' : Hp) : Hp := fun b => match H b with
  | none => H' b
  | some _ => none
theorem dif_to {H H' : Hp} {b : Addr} {o : HO} (h : dif H H' b = some o) : H b = none ∧ H' b = some o := by
  unfold dif at h
  cases e : H b with
  | none =>
    rw [e] at h
    exact ⟨rfl, h⟩
  | some u =>
    rw [e] at h
    cases h
theorem dif_of {H H' : Hp} {b : Addr} {o : HO} (n : H b = none) (h : H' b = some o) : dif H H' b = some o := by
  unfold dif
  rw [n]
  exact h
theorem dif_same {H H' : Hp} : Same (dif H H') H' := fun b o h => (dif_to h).2
/-- what is tracked stays tracked -/
def Dom (H H' : Hp) : Prop := ∀ b, H' b = none → H b = none
theorem Dom.refl {H : Hp} : Dom H H := fun _ h => h
theorem Dom.trans {H H1 H2 : Hp} (a : Dom H H1) (b : Dom H1 H2) : Dom H H2 := fun x h => a x (b x h)
theorem Dom.of {H H' : Hp} (e : Same H H') : Dom H H' := fun b h => by
  cases q : H b with
  | none => rfl
  | some u =>
    rw [e b u q] at h
    cases h
theorem Dom.upd {H : Hp} {a : Addr} {o : HO} : Dom H (L2.upd H a o) := fun b h => (none_of_upd h).2
theorem dif_del {S : List Addr} {H H' : Hp} (h : ∀ b ∈ S, H b ≠ none) : Same (dif H H') (del S H') := fun b o e => del_of (fun z => h b z (dif_to e).1) (dif_to e).2
theorem dif_mono {S : List Addr} {H H1 H2 : Hp} (c : Chg S H1 H2) (h : ∀ b ∈ S, H b ≠ none) : Same (dif H H1) (dif H H2) := fun b o e => dif_of (dif_to e).1 (c b o (fun z => h b z (dif_to e).1) (dif_to e).2)
theorem dif_left {H H1 H2 : Hp} (d : Dom H H1) : Same (dif H1 H2) (dif H H2) := fun b o e => dif_of (d b (dif_to e).1) (dif_to e).2
/-! ### the purse -/
def PurseAt (H : Hp) (p : Addr) (c : Nat) : Prop := ∃ g a n : Int, H p = some (.lst [.int g, .int a, .int n]) ∧ 0 ≤ g ∧ 0 ≤ a ∧ a < 2147483587 ∧ 0 ≤ n ∧ n ≤ c
theorem PurseAt.mono {H : Hp} {p : Addr} {c d : Nat} (h : PurseAt H p c) (e : c ≤ d) : PurseAt H p d := by
  obtain ⟨g, a, n, h1, h2, h3, h4, h5, h6⟩ := h
  exact ⟨g, a, n, h1, h2, h3, h4, h5, by omega⟩
theorem PurseAt.there {H : Hp} {p : Addr} {c : Nat} (h : PurseAt H p c) : H p ≠ none := by
  obtain ⟨g, a, n, h1, _⟩ := h
  rw [h1]
  exact fun z => by cases z
theorem PurseAt.same {H H' : Hp} {p : Addr} {c : Nat} (e : Same H H') (h : PurseAt H p c) : PurseAt H' p c := by
  obtain ⟨g, a, n, h1, h2⟩ := h
  exact ⟨g, a, n, e _ _ h1, h2⟩
/-- from H to H' at most k were taken -/
structure Spent (p : Addr) (k : Nat) (H H' : Hp) : Prop where
  chg : Chg [p] H H'
  pu : ∀ c, PurseAt H p c → PurseAt H' p (c + k)
theorem Spent.refl {p : Addr} {H : Hp} : Spent p 0 H H := ⟨Chg.refl, fun _ h => h⟩
theorem Spent.of {p : Addr} {H H' : Hp} (e : Same H H') : Spent p 0 H H' := ⟨Chg.of e, fun _ h => h.same e⟩
theorem Spent.trans {p : Addr} {j k : Nat} {H H1 H2 : Hp} (a : Spent p j H H1) (b : Spent p k H1 H2) : Spent p (j + k) H H2 := ⟨Chg.trans a.chg b.chg, fun c h => by
  have := b.pu _ (a.pu c h)
  rwa [Nat.add_assoc] at this⟩
theorem Spent.mono {p : Addr} {j k : Nat} {H H' : Hp} (a : Spent p j H H') (h : j ≤ k) : Spent p k H H' := ⟨a.chg, fun c q => (a.pu c q).mono (by omega)⟩
theorem Spent.dom {p : Addr} {k c : Nat} {H H' : Hp} (a : Spent p k H H') (h : PurseAt H p c) : Dom H H' := fun b hb => by
  cases q : H b with
  | none => rfl
  | some u =>
    by_cases e : b = p
    · have := (a.pu c h).there
      rw [e] at hb
      exact absurd hb this
    · rw [a.chg b u (fun z => e (List.mem_singleton.mp z)) q] at hb
      cases hb
theorem there1 {H : Hp} {p : Addr} {c : Nat} (h : PurseAt H p c) : ∀ b ∈ [p], H b ≠ none := fun b hb => by
  rw [List.mem_singleton.mp hb]
  exact h.there
/-- a new object after some spending -/
theorem Spent.new {p : Addr} {k : Nat} {H H' : Hp} {a : Addr} {o : HO} (s : Spent p k H H') (h : H' a = none) : Spent p k H (L2.upd H' a o) := (s.trans (Spent.of (same_new h o))).mono (Nat.le_refl _)
/-- an item by its place -/
theorem atI_in {α : Type} {xs : List α} {i : Int} (h0 : 0 ≤ i) (h1 : i < (xs.length : Int)) : ∃ v, atI xs i = some v ∧ v ∈ xs := by
  have hlt : i.toNat < xs.length := by omega
  have e : xs[i.toNat]? = some xs[i.toNat] := List.getElem?_eq_getElem hlt
  have := atI_nat e
  rw [Int.toNat_of_nonneg h0] at this
  exact ⟨_, this, List.getElem_mem hlt⟩
theorem modR (x : Int) {y : Int} (h : 0 < y) : 0 ≤ x % y ∧ x % y < y := ⟨Int.emod_nonneg x (by omega), Int.emod_lt_of_pos x h⟩
section
variable {P : Program} {w : World} {K : PySem.W.Frag} {mg : Str → Option Value} {base : Heap}
def spCell : Sp := SpG (G := Addr × List Int × Nat) (fun (a, _, i) => [.ref a, .int (i : Nat)]) (fun (a, ns, i) H => SqL K H a (ns.map V.int) ∧ i ≤ 10) (fun _ H v H' => H' = H ∧ ∃ z, v = .int z)
abbrev N_law_cell : List PySem.Str := ["_law_script", "_law_k"]
theorem sc_law_cell : FnScope N_law_cell ["_law_script", "_law_k"] d_law_cell.scope := ⟨rfl, rfl, rfl, by decide +kernel, rfl, by decide +kernel, by decide +kernel⟩
theorem c_law_cell (T : TX K mg) : Cal P w K mg base 1 "_law_cell" (spCell (K := K)) [] := by
  refine calD T T.f_law_cell rfl T.g_law_cell (bindsN rfl fun _ _ _ _ _ _ us hl => match us, hl with | [_, _], _ => rfl) sc_law_cell (fun _ => rfl) fun cdv A outer s0 H Q E f g hr hp k => ?_
  obtain ⟨a, ns, i⟩ := g
  obtain ⟨ha, h10⟩ := hp
  refine ⟨_, (pss_cons (ps_if (pt_cmpR (op_lt) (pv 1) (pe_callB (call_len_seq) rfl T.n_len b_len (pa_cons (pv 0) pa_nil)) (nomark _)) (pss_one (ps_ret (pe_ix (ix_listK K rfl) (pv 0) (pv 1) (fun _ _ => rfl)))) pss_nil)
    (pss_one (ps_ret (pe_op op_add (pe_op op_mulW pe_int (pv 1)) pe_int)))), ?_⟩
  refine ⟨_, rfl, _, rfl, a, _, rfl, .inl ha, _, _, rfl, rfl, _, rfl, ?_⟩
  refine ite2 (fun c => ?_) (fun c => ?_)
  · have c' := of_decide_eq_true c
    rw [List.length_map] at c'
    have hi : i < ns.length := by omega
    exact ⟨_, rfl, _, rfl, a, _, _, _, rfl, rfl, ha, atI_nat (j := i) (by rw [List.getElem?_map, List.getElem?_eq_getElem hi]; rfl), k _ _ ⟨rfl, _, rfl⟩⟩
  · exact ⟨_, rfl, _, _, rfl, rfl, mulS (by decide) (by omega), _, _, rfl, rfl, k _ _ ⟨rfl, _, rfl⟩⟩
def spPurse : Sp := SpG (G := Int) (fun z => [.int z]) (fun _ _ => True) (fun _ H v H' => Same H H' ∧ ∃ p, v = .ref p ∧ H p = none ∧ PurseAt H' p 0)
abbrev N_law_purse : List PySem.Str := ["_law_cell_here"]
theorem sc_law_purse : FnScope N_law_purse ["_law_cell_here"] d_law_purse.scope := ⟨rfl, rfl, rfl, by decide +kernel, rfl, by decide +kernel, by decide +kernel⟩
theorem c_law_purse (T : TX K mg) : Cal P w K mg base 1 "_law_purse" spPurse [] := by
  refine calD T T.f_law_purse rfl T.g_law_purse (bindsN rfl fun _ _ _ _ _ _ us hl => match us, hl with | [_], _ => rfl) sc_law_purse (fun _ => rfl) fun cdv A outer s0 H Q E f z hr hp k => ?_
  refine ⟨_, (pss_one (ps_ret (pe_lst (pa_cons (pe_callB (call_max2 rfl) rfl T.n_max b_max (pa_cons pe_int (pa_cons (pe_op op_sub (pv 0) (pe_op op_pow pe_int pe_int)) pa_nil))) (pa_cons (pe_op op_mod (pv 0) pe_int) (pa_cons pe_int pa_nil)))))), ?_⟩
  refine ⟨_, rfl, _, _, rfl, rfl, ⟨by decide, by decide, by decide⟩, _, _, rfl, rfl, _, _, rfl, _, rfl, _, _, rfl, rfl, (by show (0 : Int) < 2147483587; decide), small 3 (by decide), fun p hp => ?_⟩
  refine k _ _ ⟨same_new hp _, p, rfl, hp, _, _, _, upd_same, ?_, (modR _ (by decide)).1, (modR _ (by decide)).2, Int.le_refl _, Int.le_refl _⟩
  split <;> omega
def spTake : Sp := SpG (G := Addr × Int × Nat) (fun (p, b, _) => [.ref p, .int b]) (fun (p, b, c) H => PurseAt H p c ∧ c ≤ 1000000 ∧ 1 ≤ b ∧ b ≤ 1000001) (fun (p, b, c) H v H' => Spent p 1 H H' ∧ ∃ z, v = .int z ∧ 0 ≤ z ∧ z < b)
abbrev N_law_take : List PySem.Str := ["_law_purse_here", "_law_below", "_law_digit", "_law_left", "_law_right_here"]
theorem sc_law_take : FnScope N_law_take ["_law_purse_here", "_law_below"] d_law_take.scope := ⟨rfl, rfl, rfl, by decide +kernel, rfl, by decide +kernel, by decide +kernel⟩
theorem c_law_take (T : TX K mg) : Cal P w K mg base 1 "_law_take" spTake [] := by
  refine calD T T.f_law_take rfl T.g_law_take (bindsN rfl fun _ _ _ _ _ _ us hl => match us, hl with | [_, _], _ => rfl) sc_law_take (fun _ => rfl) fun cdv A outer s0 H Q E f g hr hp k => ?_
  obtain ⟨p, b, c⟩ := g
  obtain ⟨⟨gr, a, n, hp, hg, ha0, ha1, hn0, hn1⟩, hc, hb0, hb1⟩ := hp
  refine ⟨_, (pss_cons (ps_if (pt_cmpR (op_gt) (pe_ix (ix_listK K rfl) (pv 0) pe_int (fun _ _ => rfl)) pe_int (nomark _)) (pss_cons (ps_set (i := 2) sc_law_take.nd rfl (Or.inl rfl) (pe_op op_mod (pe_ix (ix_listK K rfl) (pv 0) pe_int (fun _ _ => rfl)) (pv 1)))
      (pss_cons (ps_asg (pe_op op_fdivW (pe_ix (ix_listK K rfl) (pv 0) pe_int (fun _ _ => rfl)) (pv 1)) (pg_sub (pv 0) pe_int set_list))
      (pss_one (ps_ret (pv 2))))) pss_nil)
    (pss_cons (ps_asg (pe_op op_add (pe_ix (ix_listK K rfl) (pv 0) pe_int (fun _ _ => rfl)) pe_int) (pg_sub (pv 0) pe_int set_list))
    (pss_cons (ps_set (i := 3) sc_law_take.nd rfl (Or.inl rfl) (pe_op op_mod (pe_op op_pow (pe_op op_add (pe_op op_add (pe_ix (ix_listK K rfl) (pv 0) pe_int (fun _ _ => rfl)) (pe_op op_mulW pe_int (pe_ix (ix_listK K rfl) (pv 0) pe_int (fun _ _ => rfl)))) pe_int) pe_int) pe_int))
    (pss_cons (ps_set (i := 4) sc_law_take.nd rfl (Or.inl rfl) (pe_op op_mod (pe_op op_pow (pe_op op_add (pe_op op_mulW (pe_ix (ix_listK K rfl) (pv 0) pe_int (fun _ _ => rfl)) (pe_ix (ix_listK K rfl) (pv 0) pe_int (fun _ _ => rfl))) pe_int) pe_int) pe_int))
    (pss_one (ps_ret (pe_op op_mod (pe_op op_fdivW (pe_op op_add (pv 3) (pe_op op_mulW pe_int (pv 4))) pe_int) (pv 1)))))))), ?_⟩
  have at0 : ∀ x y z : Int, atI [V.int x, V.int y, V.int z] 0 = some (V.int x) := fun _ _ _ => rfl
  have at1 : ∀ x y z : Int, atI [V.int x, V.int y, V.int z] 1 = some (V.int y) := fun _ _ _ => rfl
  have at2 : ∀ x y z : Int, atI [V.int x, V.int y, V.int z] 2 = some (V.int z) := fun _ _ _ => rfl
  have pown : ∀ {H' : Hp} {c' : Nat} {x y z : Int}, H' p = some (.lst [.int x, .int y, .int z]) → PurseAt H p c' → x = x := fun _ _ => rfl
  refine ⟨_, rfl, p, _, _, _, rfl, rfl, SqL.of hp, at0 _ _ _, _, _, rfl, rfl, _, rfl, ?_⟩
  refine ite2 (fun q => ?_) (fun q => ?_)
  · have q' : (0 : Int) < gr := of_decide_eq_true q
    refine ⟨_, rfl, p, _, _, _, rfl, rfl, SqL.of hp, at0 _ _ _, _, rfl, _, _, rfl, rfl, (by show (0 : Int) < b; omega), ?_⟩
    refine ⟨_, rfl, p, _, _, _, rfl, rfl, SqL.of hp, at0 _ _ _, _, rfl, _, _, rfl, rfl, wide_div (b := 40) (by omega) (by omega) (by decide) (by decide), ?_⟩
    refine ⟨_, rfl, p, _, 0, 0, rfl, rfl, hp, rfl, ?_⟩
    refine ⟨_, rfl, k _ _ ⟨⟨Chg.upd Chg.refl (List.mem_singleton_self p), fun c' h' => ?_⟩, _, rfl, (modR gr (by omega)).1, (modR gr (by omega)).2⟩⟩
    obtain ⟨g2, a2, n2, h1, h2, h3, h4, h5, h6⟩ := h'
    rw [hp] at h1
    have := HO.lst.inj (Option.some.inj h1)
    simp only [List.cons.injEq, V.int.injEq, and_true] at this
    obtain ⟨rfl, rfl, rfl⟩ := this
    exact ⟨gr / b, a, n, upd_same, Int.ediv_nonneg hg (by omega), h3, h4, h5, by omega⟩
  · refine ⟨_, rfl, p, _, _, _, rfl, rfl, SqL.of hp, at2 _ _ _, _, _, rfl, rfl, _, rfl, p, _, 2, 2, rfl, rfl, hp, rfl, ?_⟩
    have hp2 : upd H p (.lst [.int gr, .int a, .int (n + 1)]) p = some (.lst [.int gr, .int a, .int (n + 1)]) := upd_same
    refine ⟨_, rfl, p, _, _, _, rfl, rfl, SqL.of hp2, at1 _ _ _, _, rfl, p, _, _, _, rfl, rfl, SqL.of hp2, at2 _ _ _, _, _, rfl, rfl, mulS (by decide) (by omega), _, _, rfl, rfl, _, _, rfl, rfl, _, _, rfl, rfl, ⟨by decide, by decide, by omega⟩, _, _, rfl, rfl, (by show (0 : Int) < 2147483647; decide), ?_⟩
    refine ⟨_, rfl, p, _, _, _, rfl, rfl, SqL.of hp2, at1 _ _ _, _, rfl, p, _, _, _, rfl, rfl, SqL.of hp2, at2 _ _ _, _, _, rfl, rfl, mulS (by omega) (by omega), _, _, rfl, rfl, _, _, rfl, rfl, ⟨by decide, by decide, ?_⟩, _, _, rfl, rfl, (by show (0 : Int) < 2147483629; decide), ?_⟩
    · have h1 : a * (n + 1) ≤ 2147483587 * 1000002 := Int.mul_le_mul (by omega) (by omega) (by omega) (by omega)
      have h2 : 0 ≤ a * (n + 1) := Int.mul_nonneg ha0 (by omega)
      omega
    have m1 := modR ((a * (n + 1) + 70001) ^ (3 : Int).toNat) (show (0 : Int) < 2147483629 by decide)
    have m2 := modR ((a + 4001 * (n + 1) + 17) ^ (5 : Int).toNat) (show (0 : Int) < 2147483647 by decide)
    refine ⟨_, rfl, _, rfl, _, _, rfl, rfl, mulS (by decide) (by omega), _, _, rfl, rfl, _, _, rfl, rfl, wide_div (b := 40) (by decide) (by decide) (by decide) (by decide), _, rfl, _, _, rfl, rfl, (by show (0 : Int) < b; omega), ?_⟩
    refine k _ _ ⟨⟨Chg.upd Chg.refl (List.mem_singleton_self p), fun c' h' => ?_⟩, _, rfl, (modR _ (by omega)).1, (modR _ (by omega)).2⟩
    obtain ⟨g2, a2, n2, h1, h2, h3, h4, h5, h6⟩ := h'
    rw [hp] at h1
    have := HO.lst.inj (Option.some.inj h1)
    simp only [List.cons.injEq, V.int.injEq, and_true] at this
    obtain ⟨rfl, rfl, rfl⟩ := this
    exact ⟨gr, a, n + 1, upd_same, h2, h3, h4, by omega, by omega⟩
def spSpareL : Sp := SpG (G := Addr × Nat) (fun (p, _) => [.ref p]) (fun (p, c) H => PurseAt H p c ∧ c ≤ 900000) (fun (p, c) H v H' => Spent p 3 H H' ∧ ∃ z, v = .int z ∧ 0 ≤ z ∧ z ≤ 1000)
abbrev N_law_spare : List PySem.Str := ["_law_purse_here"]
theorem sc_law_spare : FnScope N_law_spare ["_law_purse_here"] d_law_spare.scope := ⟨rfl, rfl, rfl, by decide +kernel, rfl, by decide +kernel, by decide +kernel⟩
theorem c_law_spare (T : TX K mg) : Cal P w K mg base 2 "_law_spare" spSpareL [] := by
  refine calD T T.f_law_spare rfl T.g_law_spare (bindsN rfl fun _ _ _ _ _ _ us hl => match us, hl with | [_], _ => rfl) sc_law_spare (fun _ => rfl) fun cdv A outer s0 H Q E f g hr hp k => ?_
  obtain ⟨p, c⟩ := g
  obtain ⟨hp, hc⟩ := hp
  refine ⟨_, (pss_one (ps_ret (pe_ix (ix_listK K rfl) (pe_lst (pa_cons pe_int (pa_cons pe_int (pa_cons pe_int (pa_cons (pe_c (c_law_take T) hr (by decide) rfl (pa_cons (pv 0) (pa_cons pe_int pa_nil))) (pa_cons pe_int (pa_cons (pe_c (c_law_take T) hr (by decide) rfl (pa_cons (pv 0) (pa_cons pe_int pa_nil))) pa_nil))))))) (pe_c (c_law_take T) hr (by decide) rfl (pa_cons (pv 0) (pa_cons pe_int pa_nil))) (fun _ _ => rfl)))), ?_⟩
  refine ⟨_, rfl, (p, 30, c), rfl, ⟨hp, by omega, by decide, by decide⟩, fun v H1 hv => ?_⟩
  obtain ⟨s1, z1, rfl, l1, u1⟩ := hv
  have p1 := s1.pu _ hp
  refine ⟨_, rfl, (p, 1001, _), rfl, ⟨p1, by omega, by decide, by decide⟩, fun v H2 hv => ?_⟩
  obtain ⟨s2, z2, rfl, l2, u2⟩ := hv
  have p2 := s2.pu _ p1
  refine ⟨small 6 (by decide), fun q hq => ?_⟩
  have e3 : Same H2 (upd H2 q (.lst [.int 0, .int 0, .int 1, .int z1, .int 1000, .int z2])) := same_new hq _
  refine ⟨_, rfl, (p, 6, _), rfl, ⟨p2.same e3, by omega, by decide, by decide⟩, fun v H4 hv => ?_⟩
  obtain ⟨s4, z4, rfl, l4, u4⟩ := hv
  have hq4 : H4 q = some (.lst ([0, 0, 1, z1, 1000, z2].map V.int)) := s4.chg _ _ (fun z => by
    have := p2.there
    rw [← List.mem_singleton.mp z, hq] at this
    exact this rfl) upd_same
  obtain ⟨v, h1, h2⟩ := atI_in (xs := [0, 0, 1, z1, 1000, z2].map V.int) l4 (by simpa using u4)
  obtain ⟨y, hy, rfl⟩ := List.mem_map.mp h2
  refine ⟨q, _, _, _, rfl, rfl, SqL.of hq4, h1, k _ _ ⟨(((s1.trans s2).trans (Spent.of e3)).trans s4), y, rfl, ?_⟩⟩
  simp only [List.mem_cons, List.not_mem_nil, or_false] at hy
  omega
end
end BX
end
section
set_option Elab.async false
set_option linter.all false
set_option maxRecDepth 100000
set_option maxHeartbeats 4000000
namespace BX
open PySem PySem.Spec PyProof.Rows L2
open C8 (Cal Mak Met pe_c pe_mk pe_mt pe_mt0 pe_gc)
/-! ### unlike names -/
abbrev tl (s : Str) : List Nat := s.cps.toList
def ch (i : Int) : Str := ⟨#[97 + i.toNat]⟩
theorem tl_app (a b : Str) : tl (a ++ b) = tl a ++ tl b := Array.toList_append
theorem len_tl (a : Str) : a.length = (tl a).length := (Array.length_toList).symm
theorem tl_ext {a b : Str} (h : tl a = tl b) : a = b := by
  obtain ⟨x⟩ := a
  obtain ⟨y⟩ := b
  exact congrArg Str.mk (Array.toList_inj.mp h)
theorem letters_eq : tl letters = (List.range 26).map (97 + ·) := by decide +kernel
theorem letter_at {i : Int} (h0 : 0 ≤ i) (h1 : i < 26) : atI (tl letters) i = some (97 + i.toNat) := by
  have e : (tl letters)[i.toNat]? = some (97 + i.toNat) := by
    rw [letters_eq, List.getElem?_map, List.getElem?_range (by omega)]
    rfl
  have := atI_nat e
  rwa [Int.toNat_of_nonneg h0] at this
def AllL (s : Str) : Prop := ∀ c ∈ tl s, c ∈ tl letters
theorem allL_ch {i : Int} (h0 : 0 ≤ i) (h1 : i < 26) : AllL (ch i) := fun c hc => by
  have : c = 97 + i.toNat := by simpa [ch, tl] using hc
  rw [this, letters_eq]
  exact List.mem_map.mpr ⟨i.toNat, List.mem_range.mpr (by omega), rfl⟩
theorem allL_app {a b : Str} (h1 : AllL a) (h2 : AllL b) : AllL (a ++ b) := fun c hc => by
  rw [tl_app] at hc
  exact (List.mem_append.mp hc).elim (h1 c) (h2 c)
theorem len_app (a b : Str) : (a ++ b).length = a.length + b.length := by
  rw [len_tl, len_tl, len_tl, tl_app, List.length_append]
theorem len_ch (i : Int) : (ch i).length = 1 := rfl
theorem nodup_on {α β : Type} {f : α → β} {l : List α} (hn : l.Nodup) (h : ∀ a ∈ l, ∀ b ∈ l, f a = f b → a = b) : (l.map f).Nodup := by
  unfold List.Nodup
  rw [List.pairwise_map]
  exact List.Pairwise.imp_of_mem (fun {a b} ha hb n e => n (h a ha b hb e)) hn
structure Nm where
  way : Int
  first : Int
  step : Int
  head : Str
  tail : Str
def Nm.off (q : Nm) (k : Nat) : Bool := decide (q.way = 1 ∧ (k : Int) % 3 = 1)
def Nm.ext (q : Nm) (k : Nat) : Bool := q.off k || decide (q.way = 2 ∧ (k : Int) % 2 = 1)
def Nm.same (q : Nm) (k : Nat) : Int := (k : Int) - (if q.off k = true then 1 else 0)
def Nm.bas (q : Nm) (k : Nat) : Str := (q.head ++ ch ((q.first + q.step * q.same k) % 26)) ++ q.tail
def Nm.nm (q : Nm) (k : Nat) : Str := if q.ext k = true then q.bas k ++ ch ((q.first + (k : Nat)) % 26) else q.bas k
theorem r26 (x : Int) : 0 ≤ x % 26 ∧ x % 26 < 26 := ⟨Int.emod_nonneg _ (by decide), Int.emod_lt_of_pos _ (by decide)⟩
theorem ch_inj {i j : Int} (hi : 0 ≤ i) (hj : 0 ≤ j) (h : ch i = ch j) : i = j := by
  have : 97 + i.toNat = 97 + j.toNat := by simpa [ch] using h
  omega
theorem bas_len (q : Nm) (k : Nat) : (q.bas k).length = q.head.length + 1 + q.tail.length := by
  unfold Nm.bas
  rw [len_app, len_app, len_ch]
theorem bas_inj {q : Nm} {j k : Nat} (h : q.bas j = q.bas k) : (q.first + q.step * q.same j) % 26 = (q.first + q.step * q.same k) % 26 := by
  have h1 : tl (q.bas j) = tl (q.bas k) := by rw [h]
  unfold Nm.bas at h1
  rw [tl_app, tl_app, tl_app, tl_app] at h1
  have h2 := List.append_cancel_right h1
  have h3 := List.append_cancel_left h2
  exact ch_inj (r26 _).1 (r26 _).1 (tl_ext h3)
theorem same_range (q : Nm) {k : Nat} (h : k < 12) : 0 ≤ q.same k ∧ q.same k < 12 := by
  unfold Nm.same Nm.off
  split
  · rename_i e
    have e := of_decide_eq_true e
    omega
  · omega
theorem nm_inj {q : Nm} (hs : q.step = 1 ∨ q.step = 5 ∨ q.step = 7 ∨ q.step = 11) {j k : Nat} (hj : j < 12) (hk : k < 12) (h : q.nm j = q.nm k) : j = k := by
  have lj : (q.nm j).length = q.head.length + 1 + q.tail.length + (if q.ext j = true then 1 else 0) := by
    unfold Nm.nm
    split
    · rw [len_app, bas_len, len_ch]
    · exact bas_len q j
  have lk : (q.nm k).length = q.head.length + 1 + q.tail.length + (if q.ext k = true then 1 else 0) := by
    unfold Nm.nm
    split
    · rw [len_app, bas_len, len_ch]
    · exact bas_len q k
  have hl : (if q.ext j = true then 1 else 0) = (if q.ext k = true then 1 else 0) := by
    rw [h, lk] at lj
    omega
  have hb : q.bas j = q.bas k ∧ q.ext j = q.ext k := by
    cases ej : q.ext j with
    | true =>
      cases ek : q.ext k with
      | true =>
        refine ⟨?_, rfl⟩
        unfold Nm.nm at h
        rw [if_pos ej, if_pos ek] at h
        have h1 : tl (q.bas j ++ ch ((q.first + (j : Nat)) % 26)) = tl (q.bas k ++ ch ((q.first + (k : Nat)) % 26)) := by rw [h]
        rw [tl_app, tl_app] at h1
        refine tl_ext (List.append_inj_left h1 ?_)
        rw [← len_tl, ← len_tl, bas_len, bas_len]
      | false =>
        rw [ej, ek] at hl
        exact absurd hl (by decide)
    | false =>
      cases ek : q.ext k with
      | true =>
        rw [ej, ek] at hl
        exact absurd hl (by decide)
      | false =>
        refine ⟨?_, rfl⟩
        unfold Nm.nm at h
        rw [if_neg (by rw [ej]; decide), if_neg (by rw [ek]; decide)] at h
        exact h
  obtain ⟨hb, he⟩ := hb
  have hm := bas_inj hb
  have rj := same_range q hj
  have rk := same_range q hk
  have hsame : q.same j = q.same k := by
    rcases hs with e | e | e | e <;> rw [e] at hm <;> omega
  have hoff : q.off j = q.off k := by
    unfold Nm.ext at he
    unfold Nm.off at he ⊢
    by_cases w1 : q.way = 1
    · have w2 : ¬ q.way = 2 := by omega
      rw [decide_eq_false (fun z : q.way = 2 ∧ _ => w2 z.1), decide_eq_false (fun z : q.way = 2 ∧ _ => w2 z.1), Bool.or_false, Bool.or_false] at he
      exact he
    · rw [decide_eq_false (fun z : q.way = 1 ∧ _ => w1 z.1), decide_eq_false (fun z : q.way = 1 ∧ _ => w1 z.1)]
  unfold Nm.same at hsame
  rw [hoff] at hsame
  omega
theorem nm_ok {q : Nm} (h1 : AllL q.head) (h2 : AllL q.tail) (h3 : q.head.length + q.tail.length ≤ 6) (k : Nat) : NameOk (q.nm k) := by
  have hb : AllL (q.bas k) := allL_app (allL_app h1 (allL_ch (r26 _).1 (r26 _).2)) h2
  have lb := bas_len q k
  unfold Nm.nm
  split
  · refine ⟨?_, ?_, allL_app hb (allL_ch (r26 _).1 (r26 _).2)⟩
    · rw [len_app, len_ch]
      omega
    · rw [len_app, len_ch]
      omega
  · exact ⟨by omega, by omega, hb⟩
def wordsL : List Str := ["in", "x", "wall", "rest", "box", "parcel", "none", "alone", "top", "turn", "stack", "heavy"]
def wd (first step : Int) (k : Nat) : Str := (wordsL[((first + step * (k : Nat)) % 12).toNat]?).getD ""
theorem words_nd : wordsL.Nodup := by decide +kernel
theorem words_ok : ∀ x ∈ wordsL, NameOk x := by
  have h : ∀ x ∈ wordsL, (1 ≤ x.length ∧ x.length ≤ 8) ∧ ∀ c ∈ x.cps.toList, c ∈ letters.cps.toList := by decide +kernel
  exact fun x hx => ⟨(h x hx).1.1, (h x hx).1.2, (h x hx).2⟩
theorem wd_at (first step : Int) (k : Nat) : ∃ x ∈ wordsL, wordsL[((first + step * (k : Nat)) % 12).toNat]? = some x ∧ wd first step k = x := by
  have h0 : 0 ≤ (first + step * (k : Nat)) % 12 := Int.emod_nonneg _ (by decide)
  have h1 : (first + step * (k : Nat)) % 12 < 12 := Int.emod_lt_of_pos _ (by decide)
  have hlt : ((first + step * (k : Nat)) % 12).toNat < wordsL.length := by
    show _ < 12
    omega
  refine ⟨_, List.getElem_mem hlt, List.getElem?_eq_getElem hlt, ?_⟩
  unfold wd
  rw [List.getElem?_eq_getElem hlt]
  rfl
theorem wd_inj {first step : Int} (hs : step = 1 ∨ step = 5 ∨ step = 7 ∨ step = 11) {j k : Nat} (hj : j < 12) (hk : k < 12) (h : wd first step j = wd first step k) : j = k := by
  obtain ⟨x, _, hx, ex⟩ := wd_at first step j
  obtain ⟨y, _, hy, ey⟩ := wd_at first step k
  have : x = y := ex.symm.trans (h.trans ey)
  subst this
  have := nodup_at words_nd hx hy
  have a0 : 0 ≤ (first + step * (j : Nat)) % 12 := Int.emod_nonneg _ (by decide)
  have b0 : 0 ≤ (first + step * (k : Nat)) % 12 := Int.emod_nonneg _ (by decide)
  have hm : (first + step * (j : Nat)) % 12 = (first + step * (k : Nat)) % 12 := by omega
  rcases hs with e | e | e | e <;> rw [e] at hm <;> omega
end BX
end
section
set_option Elab.async false
set_option linter.all false
set_option maxRecDepth 100000
set_option maxHeartbeats 4000000
namespace BX
open PySem PySem.Spec PyProof.Rows L2
open C8 (Cal Mak Met pe_c pe_mk pe_mt pe_mt0 pe_gc)
theorem cut_take {xs : List V} {n : Nat} (h : n ≤ xs.length) : cutV xs none (some (n : Int)) = xs.take n := by
  unfold cutV
  rw [HT.sIx_none, HT.sIx_nat, List.drop_zero, Nat.min_eq_left h]
  rfl
theorem cut_drop {xs : List V} {n : Nat} (h : n ≤ xs.length) : cutV xs (some (n : Int)) none = xs.drop n := by
  unfold cutV
  rw [HT.sIx_none, HT.sIx_nat, Nat.min_eq_left h]
  exact List.take_of_length_le (by rw [List.length_drop]; exact Nat.le_refl _)
theorem join0 : ∀ l : List (List Nat), TL.joinL [] l = l.flatten
  | [] => rfl
  | [p] => by simp [TL.joinL]
  | p :: q :: r => by
    show p ++ ([] ++ TL.joinL [] (q :: r)) = _
    rw [join0 (q :: r)]
    rfl
theorem tl_joined (ys : List Str) : tl (Txt.join "" ys) = (ys.map tl).flatten := by
  rw [TL.join_eq]
  have := TL.tl_join "" ys
  exact this.trans (join0 _)
theorem Spent.at' {p D : Addr} {k : Nat} {H H' : Hp} {o : HO} (s : Spent p k H H') (h : H D = none) (n : D ≠ p) : Spent p k H (L2.upd H' D o) := ⟨Chg.new s.chg h, fun c q => by
  obtain ⟨g, a, m, h1, h2⟩ := s.pu c q
  exact ⟨g, a, m, by rw [upd_ne n.symm]; exact h1, h2⟩⟩
theorem yes_of {σ : L2.St} {H : Hp} {A B : Hp → Prop} (h : A H) : tYes σ H (fun b H3 => if b = true then A H3 else B H3) := by
  show (if true = true then A H else B H)
  rw [if_pos rfl]
  exact h
theorem join_letters {ys : List Str} (h : ∀ y ∈ ys, y.length = 1 ∧ AllL y) : AllL (Txt.join "" ys) ∧ (Txt.join "" ys).length = ys.length := by
  refine ⟨fun c hc => ?_, ?_⟩
  · rw [tl_joined] at hc
    obtain ⟨l, hl, hcl⟩ := List.mem_flatten.mp hc
    obtain ⟨y, hy, rfl⟩ := List.mem_map.mp hl
    exact (h y hy).2 c hcl
  · rw [len_tl, tl_joined]
    induction ys with
    | nil => rfl
    | cons y ys ih =>
      rw [List.map_cons, List.flatten_cons, List.length_append, ih fun z hz => h z (List.mem_cons_of_mem _ hz), ← len_tl, (h y List.mem_cons_self).1, List.length_cons]
      omega
section
variable {P : Program} {w : World} {K : PySem.W.Frag} {mg : Str → Option Value} {base : Heap}
theorem nm_same {K : PySem.W.Frag} {q : Nm} {k : Nat} {σ : L2.St} {H : Hp} {Q : VK} (h3 : σ[3]? = some (some (.int q.way))) (h12 : σ[12]? = some (some (.int (k : Nat)))) (h : Q (.int (q.same k)) H) :
    tOp (rI0 fun i j => V.int (i - j)) (tVar 12) (tCB (fun xs H Q => (∃ i, xs = [V.int i] ∧ Q (V.int i) H) ∨ ∃ k, xs = [V.bl k] ∧ Q (V.int (if k = true then 1 else 0)) H)
      (tCons (tAndV (tOp rEq (tVar 3) (tC (.int 1))) (tOp rEq (tOp (rI (fun x j => 0 < j) fun i j => V.int (i % j)) (tVar 12) (tC (.int 3))) (tC (.int 1)))) tNil)) σ H Q := by
  refine ⟨_, h12, _, h3, rfl, _, rfl, ?_⟩
  by_cases hw : q.way = 1
  · rw [hw, decide_eq_true rfl]
    refine iteT ⟨_, h12, _, _, rfl, rfl, (by show (0 : Int) < 3; decide), rfl, .inr ⟨_, rfl, _, _, rfl, rfl, ?_⟩⟩
    have e : Nm.same q k = (k : Int) - (if decide (V.int ((k : Int) % 3) = V.int 1) = true then 1 else 0) := by
      unfold Nm.same Nm.off
      by_cases hk : (k : Int) % 3 = 1
      · rw [decide_eq_true (show q.way = 1 ∧ (k : Int) % 3 = 1 from ⟨hw, hk⟩), decide_eq_true (congrArg V.int hk)]
      · rw [decide_eq_false (fun z : q.way = 1 ∧ (k : Int) % 3 = 1 => hk z.2), decide_eq_false (fun z => hk (V.int.inj z))]
    rw [e] at h
    exact h
  · rw [decide_eq_false (fun z => hw (V.int.inj z))]
    refine iteF (.inr ⟨_, rfl, _, _, rfl, rfl, ?_⟩)
    have e : Nm.same q k = (k : Int) - (if false = true then 1 else 0) := by
      unfold Nm.same Nm.off
      rw [decide_eq_false (fun z : q.way = 1 ∧ (k : Int) % 3 = 1 => hw z.1)]
    rw [e] at h
    exact h
theorem nm_half {a b k : Int} {ia ik : Nat} {σ : L2.St} {H : Hp} {Q : Bool → Hp → Prop} (h3 : σ[ia]? = some (some (.int a))) (h12 : σ[ik]? = some (some (.int k))) {m : Int} (hm : 0 < m) (h : Q (decide (a = b ∧ k % m = 1)) H) :
    tAnd (tTest (tOp rEq (tVar ia) (tC (.int b)))) (tTest (tOp rEq (tOp (rI (fun x j => 0 < j) fun i j => V.int (i % j)) (tVar ik) (tC (.int m))) (tC (.int 1)))) σ H Q := by
  refine ⟨_, h3, rfl, _, rfl, ?_⟩
  by_cases hw : a = b
  · rw [decide_eq_true (congrArg V.int hw)]
    refine iteT ⟨_, h12, _, _, rfl, rfl, hm, rfl, _, rfl, ?_⟩
    have e : decide (V.int (k % m) = V.int 1) = decide (a = b ∧ k % m = 1) := by
      rw [decide_eq_decide]
      exact ⟨fun z => ⟨hw, V.int.inj z⟩, fun z => congrArg V.int z.2⟩
    rw [e]
    exact h
  · rw [decide_eq_false (fun z => hw (V.int.inj z))]
    refine iteF ?_
    rw [decide_eq_false (fun z : a = b ∧ k % m = 1 => hw z.1)] at h
    exact h
theorem nm_test {q : Nm} {k : Nat} {σ : L2.St} {H : Hp} {Q : Bool → Hp → Prop} (h3 : σ[3]? = some (some (.int q.way))) (h12 : σ[12]? = some (some (.int (k : Nat)))) (h : Q (q.ext k) H) :
    tOr (tAnd (tTest (tOp rEq (tVar 3) (tC (.int 1)))) (tTest (tOp rEq (tOp (rI (fun x j => 0 < j) fun i j => V.int (i % j)) (tVar 12) (tC (.int 3))) (tC (.int 1)))))
      (tAnd (tTest (tOp rEq (tVar 3) (tC (.int 2)))) (tTest (tOp rEq (tOp (rI (fun x j => 0 < j) fun i j => V.int (i % j)) (tVar 12) (tC (.int 2))) (tC (.int 1))))) σ H Q := by
  refine nm_half h3 h12 (by decide) ?_
  show if q.off k = true then Q true H else _
  unfold Nm.ext at h
  cases e : q.off k with
  | true =>
    rw [e, Bool.true_or] at h
    exact iteT h
  | false =>
    rw [e, Bool.false_or] at h
    exact iteF (nm_half h3 h12 (by decide) h)
def spNames : Sp := SpG (G := Addr × Nat × Nat) (fun (p, n, _) => [.ref p, .int (n : Nat)]) (fun (p, n, c) H => PurseAt H p c ∧ c ≤ 900000 ∧ n ≤ 12) (fun (p, n, c) H v H' => Spent p 20 H H' ∧ ∃ (l : Addr) (xs : List Str), v = .ref l ∧ H l = none ∧ H' l = some (.lst (xs.map V.str)) ∧ xs.length = n ∧ xs.Nodup ∧ ∀ x ∈ xs, NameOk x)
theorem sum1 (ys : List Str) (h : ∀ y ∈ ys, y.length = 1) : (ys.map fun x => x.length).sum = ys.length := by
  induction ys with
  | nil => rfl
  | cons y ys ih =>
    rw [List.map_cons, List.sum_cons, h y List.mem_cons_self, ih fun z hz => h z (List.mem_cons_of_mem _ hz), List.length_cons]
    omega
abbrev N_law_names : List PySem.Str := ["_law_purse_here", "_law_size", "_law_letters", "_law_way", "_law_first", "_law_step", "_law_words", "_law_stem", "_law_at", "_law_head", "_law_tail", "_law_found", "_law_k", "_law_same", "_law_name"]
theorem sc_law_names : FnScope N_law_names ["_law_purse_here", "_law_size"] d_law_names.scope := ⟨rfl, rfl, rfl, by decide +kernel, rfl, by decide +kernel, by decide +kernel⟩
theorem c_law_names (T : TX K mg) : Cal P w K mg base 2 "_law_names" spNames [] := by
  refine calD T T.f_law_names rfl T.g_law_names (bindsN rfl fun _ _ _ _ _ _ us hl => match us, hl with | [_, _], _ => rfl) sc_law_names (fun _ => rfl) fun cdv A outer s0 H Q E f g hr hp k => ?_
  obtain ⟨p, n, c⟩ := g
  obtain ⟨hp, hc, hn⟩ := hp
  refine ⟨_, (pss_cons (ps_set (i := 2) sc_law_names.nd rfl (Or.inr rfl) pe_str)
    (pss_cons (ps_set (i := 3) sc_law_names.nd rfl (Or.inl rfl) (pe_c (c_law_take T) hr (by decide) rfl (pa_cons (pv 0) (pa_cons pe_int pa_nil))))
    (pss_cons (ps_set (i := 4) sc_law_names.nd rfl (Or.inr rfl) (pe_c (c_law_take T) hr (by decide) rfl (pa_cons (pv 0) (pa_cons pe_int pa_nil))))
    (pss_cons (ps_set (i := 5) sc_law_names.nd rfl (Or.inr rfl) (pe_ix (ix_listK K rfl) (pe_lst (pa_cons pe_int (pa_cons pe_int (pa_cons pe_int (pa_cons pe_int pa_nil))))) (pe_c (c_law_take T) hr (by decide) rfl (pa_cons (pv 0) (pa_cons pe_int pa_nil))) (fun _ _ => rfl)))
    (pss_cons (ps_if (pt_cmpR (op_eq) (pv 3) pe_int (nomark _)) (pss_cons (ps_set (i := 6) sc_law_names.nd rfl (Or.inr rfl) (pe_lst (pa_cons pe_str (pa_cons pe_str (pa_cons pe_str (pa_cons pe_str (pa_cons pe_str (pa_cons pe_str (pa_cons pe_str (pa_cons pe_str (pa_cons pe_str (pa_cons pe_str (pa_cons pe_str (pa_cons pe_str pa_nil))))))))))))))
      (pss_one (ps_ret (pe_lc (own := [("_law_k", 12)]) rfl sc_law_names.nd (pi_range1 rfl T.n_range (pa_cons (pv 1) pa_nil)) (blkOk_by (own := [("_law_k", 12)]) (N := N_law_names) (sc := d_law_names.scope) (by decide +kernel)) (fun _ _ _ _ _ => (pg_name (i := 12) sc_law_names.nd rfl (Or.inl rfl))) (fun _ _ _ _ _ => pts_nil) (fun _ _ _ _ _ => (pe_ix (ix_listK K rfl) (pv 6) (pe_op op_mod (pe_op op_add (pv 4) (pe_op op_mulW (pv 5) (pv 12))) pe_int) (fun _ _ => rfl))))))) pss_nil)
    (pss_cons (ps_setLc (i := 7) (own := [("_law_k", 12)]) rfl sc_law_names.nd rfl rfl (sw_true rfl rfl rfl (by decide +kernel)) (pi_range1 rfl T.n_range (pa_cons (pe_c (c_law_take T) hr (by decide) rfl (pa_cons (pv 0) (pa_cons pe_int pa_nil))) pa_nil)) (blkOk_by (own := [("_law_k", 12)]) (N := N_law_names) (sc := d_law_names.scope) (by decide +kernel)) (fun _ _ _ _ _ => (pg_name (i := 12) sc_law_names.nd rfl (Or.inl rfl))) (fun _ _ _ _ _ => pts_nil) (fun _ _ _ _ _ => (pe_ix ix_str (pv 2) (pe_c (c_law_take T) hr (by decide) rfl (pa_cons (pv 0) (pa_cons pe_int pa_nil))) (fun _ _ => rfl))))
    (pss_cons (ps_set (i := 8) sc_law_names.nd rfl (Or.inl rfl) (pe_c (c_law_take T) hr (by decide) rfl (pa_cons (pv 0) (pa_cons (pe_op op_add (pe_callB (call_len_seq) rfl T.n_len b_len (pa_cons (pv 7) pa_nil)) pe_int) pa_nil))))
    (pss_cons (ps_par (i := 9) (j := 10) (by rfl) sc_law_names.nd rfl rfl (by decide) rfl rfl (pa_cons (pe_join pe_str (pe_slice (sl_listK K rfl) (pv 7) po_none (po_some (pv 8)))) (pa_cons (pe_join pe_str (pe_slice (sl_listK K rfl) (pv 7) (po_some (pv 8)) po_none)) pa_nil)) (by rfl))
    (pss_cons (ps_set (i := 11) sc_law_names.nd rfl (Or.inl rfl) (pe_lst pa_nil))
    (pss_cons (ps_for PassesOwn.never rfl (pi_range1 rfl T.n_range (pa_cons (pv 1) pa_nil)) (pg_name (i := 12) sc_law_names.nd rfl (Or.inl rfl)) (pss_cons (ps_set (i := 13) sc_law_names.nd rfl (Or.inl rfl) (pe_op op_sub (pv 12) (pe_callTy (call_int1) rfl T.n_int b_int (pa_cons (pe_and (pe_cmpR (op_eq) (pv 3) pe_int (nomark _)) (pe_one (pe_cmpR (op_eq) (pe_op op_mod (pv 12) pe_int) pe_int (nomark _)))) pa_nil))))
      (pss_cons (ps_set (i := 14) sc_law_names.nd rfl (Or.inl rfl) (pe_op op_add_str (pe_op op_add_str (pv 9) (pe_ix ix_str (pv 2) (pe_op op_mod (pe_op op_add (pv 4) (pe_op op_mulW (pv 5) (pv 13))) pe_int) (fun _ _ => rfl))) (pv 10)))
      (pss_cons (ps_if (PW.pt (pw_or (PW.pt (pw_and (pt_cmpR (op_eq) (pv 3) pe_int (nomark _)) (pw_and1 (pt_cmpR (op_eq) (pe_op op_mod (pv 12) pe_int) pe_int (nomark _))))) (pw_or1 (PW.pt (pw_and (pt_cmpR (op_eq) (pv 3) pe_int (nomark _)) (pw_and1 (pt_cmpR (op_eq) (pe_op op_mod (pv 12) pe_int) pe_int (nomark _)))))))) (pss_one (ps_set (i := 14) sc_law_names.nd rfl (Or.inl rfl) (pe_op op_add_str (pv 14) (pe_ix ix_str (pv 2) (pe_op op_mod (pe_op op_add (pv 4) (pv 12)) pe_int) (fun _ _ => rfl))))) pss_nil)
      (pss_one (ps_expr (pe_bm PySem.F.plainAttrs_list PySem.F.slot_list_append PySem.F.type_list_append mt_append (pv 11) (pa_cons (pv 14) pa_nil))))))))
    (pss_one (ps_ret (pv 11))))))))))))), ?_⟩
  refine ⟨_, rfl, (p, 5, c), rfl, ⟨hp, by omega, by decide, by decide⟩, fun v H1 hv => ?_⟩
  obtain ⟨s1, way, rfl, l1, u1⟩ := hv
  have p1 := s1.pu _ hp
  refine ⟨_, rfl, (p, 26, _), rfl, ⟨p1, by omega, by decide, by decide⟩, fun v H2 hv => ?_⟩
  obtain ⟨s2, first, rfl, l2, u2⟩ := hv
  have p2 := s2.pu _ p1
  refine ⟨small 4 (by decide), fun q hq => ?_⟩
  have e3 : Same H2 (upd H2 q (.lst [.int 1, .int 5, .int 7, .int 11])) := same_new hq _
  refine ⟨_, rfl, (p, 4, _), rfl, ⟨p2.same e3, by omega, by decide, by decide⟩, fun v H4 hv => ?_⟩
  obtain ⟨s4, z4, rfl, l4, u4⟩ := hv
  have npq : q ∉ [p] := fun z => by
    have := p2.there
    rw [← List.mem_singleton.mp z, hq] at this
    exact this rfl
  have hq4 : H4 q = some (.lst (([1, 5, 7, 11] : List Int).map V.int)) := s4.chg _ _ npq upd_same
  obtain ⟨v, h1, h2⟩ := atI_in (xs := ([1, 5, 7, 11] : List Int).map V.int) l4 (by simpa using u4)
  obtain ⟨step, hy, rfl⟩ := List.mem_map.mp h2
  have hstep : step = 1 ∨ step = 5 ∨ step = 7 ∨ step = 11 := by simpa using hy
  have s04 : Spent p 3 H H4 := ((s1.trans s2).trans (Spent.of e3)).trans s4
  have p4 := s04.pu _ hp
  refine ⟨q, _, _, _, rfl, rfl, SqL.of hq4, h1, ?_⟩
  refine ⟨_, rfl, rfl, _, rfl, ?_⟩
  by_cases hw : way = 0
  · subst hw
    refine iteT ?_
    refine ⟨small 12 (by decide), fun wl hwl => ?_⟩
    have e5 : Same H4 (upd H4 wl (.lst (wordsL.map V.str))) := same_new hwl _
    have w5 : upd H4 wl (.lst (wordsL.map V.str)) wl = _ := upd_same
    refine ⟨_, rfl, _, rfl, by omega, by omega, fun D hD => ?_⟩
    refine lc_map (J := Itr 0 n) (l := List.range n) (fun i => V.int (i : Nat)) (fun i => V.str (wd first step i)) (wr n) (fun _ _ => trivial) (by rw [List.length_range]; omega) hD ?_ gN ?_
    · intro i H' hi hs Qy y
      have hin : i < n := List.mem_range.mp hi
      obtain ⟨x, hx, hx2, hx3⟩ := wd_at first step i
      have m0 : 0 ≤ (first + step * (i : Nat)) % 12 := Int.emod_nonneg _ (by decide)
      refine ⟨rfl, _, rfl, _, rfl, _, rfl, _, rfl, _, _, rfl, rfl, mulS (by omega) (by omega), _, _, rfl, rfl, _, _, rfl, rfl, (by show (0 : Int) < 12; decide), wl, _, _, V.str (wd first step i), rfl, rfl, SqL.of (hs _ _ w5), ?_, y _ fun _ _ h => h⟩
      have e : (wordsL.map V.str)[((first + step * (i : Nat)) % 12).toNat]? = some (V.str (wd first step i)) := by
        rw [List.getElem?_map, hx2, hx3]
        rfl
      have := atI_nat e
      rwa [Int.toNat_of_nonneg m0] at this
    · intro H6 hs hD6
      have e56 : Same H4 H6 := fun b o e => hs _ _ (e5 _ _ e)
      refine k _ _ ⟨(s04.trans (Spent.of e56)).mono (by decide), D, (List.range n).map fun i => wd first step i, rfl, ?_, by rw [hD6, List.map_map]; rfl, by rw [List.length_map, List.length_range], ?_, ?_⟩
      · exact s04.dom hp D (Dom.of e5 D hD)
      · refine nodup_on List.nodup_range fun i hi j hj e => wd_inj hstep ?_ ?_ e
        · have := List.mem_range.mp hi
          omega
        · have := List.mem_range.mp hj
          omega
      · intro x hx
        obtain ⟨i, _, rfl⟩ := List.mem_map.mp hx
        obtain ⟨y, hy, _, ey⟩ := wd_at first step i
        rw [ey]
        exact words_ok y hy
  have hwd : decide (V.int way = V.int 0) = false := decide_eq_false fun z => hw (V.int.inj z)
  rw [hwd]
  refine iteF ?_
  -- the stem
  refine ⟨_, rfl, (p, 7, _), rfl, ⟨p4, by omega, by decide, by decide⟩, fun v H5 hv => ?_⟩
  obtain ⟨s5, m, rfl, l5, u5⟩ := hv
  have p5 := s5.pu _ p4
  refine ⟨m, rfl, by omega, by omega, fun D hD => ?_⟩
  have npD : D ∉ [p] := fun z => by
    have := p5.there
    rw [← List.mem_singleton.mp z, hD] at this
    exact this rfl
  have nDp : D ≠ p := fun z => npD (List.mem_singleton.mpr z)
  have w6 := wr m.toNat
  rw [List.length_range] at w6
  refine lc_it w6 (fun i H' => Spent p i H5 H' ∧ ∃ cs : List Str, H' D = some (.lst (cs.map V.str)) ∧ cs.length = i ∧ ∀ y ∈ cs, y.length = 1 ∧ AllL y) ⟨Spent.of (same_new hD _), [], upd_same, rfl, fun _ h => by cases h⟩ (fun _ _ _ _ => trivial) ?_ ?_
  · rintro i v H6 H7 hi ⟨s6, cs, hcs, hcl, hcy⟩ ⟨hH, z, hz, rfl⟩
    subst hH
    have p7 := s6.pu _ p5
    refine ⟨rfl, yes_of ?_⟩
    refine ⟨_, rfl, _, rfl, (p, 26, _), rfl, ⟨p7, by omega, by decide, by decide⟩, fun v H8 hv => ?_⟩
    obtain ⟨s8, j, rfl, l8, u8⟩ := hv
    have hc8 := s8.chg _ _ npD hcs
    refine ⟨letters, _, _, rfl, rfl, small 26 (by decide), letter_at l8 u8, cs.map V.str, hc8, ?_, ?_⟩
    · rw [List.length_map]
      exact smallt _ (by omega)
    · refine ⟨(s6.trans s8).at' hD nDp, cs ++ [ch j], ?_, ?_, fun y hy => ?_⟩
      · rw [upd_same, List.map_append]
        rfl
      · rw [List.length_append, hcl]
        rfl
      · rcases List.mem_append.mp hy with e | e
        · exact hcy y e
        · rw [List.mem_singleton.mp e]
          exact ⟨rfl, allL_ch l8 u8⟩
  rintro H6 ⟨s6, cs, hcs, hcl, hcy⟩
  have p6 := s6.pu _ p5
  have s06 : Spent p 10 H H6 := ((s04.trans s5).trans s6).mono (by omega)
  have hcs6 : cs.length ≤ 6 := by omega
  refine ⟨_, rfl, _, rfl, D, _, rfl, .inl (SqL.of hcs), _, _, rfl, rfl, (p, ((cs.map V.str).length : Int) + 1, _), rfl, ⟨p6, by omega, by omega, by rw [List.length_map]; omega⟩, fun v H7 hv => ?_⟩
  obtain ⟨s7, at', rfl, l7, u7⟩ := hv
  rw [List.length_map] at u7
  obtain ⟨j, rfl⟩ : ∃ j : Nat, at' = (j : Nat) := ⟨at'.toNat, (Int.toNat_of_nonneg l7).symm⟩
  have hcs7 := s7.chg _ _ npD hcs
  have p7 := s7.pu _ p6
  have s07 : Spent p 11 H H7 := s06.trans s7
  have hatl : j ≤ (cs.map V.str).length := by
    rw [List.length_map]
    omega
  -- head and tail
  refine ⟨⟨_, rfl⟩, _, rfl, _, rfl, _, rfl, D, _, rfl, SqL.of hcs7, fun q1 hq1 => ?_⟩
  rw [cut_take hatl, ← List.map_take]
  have e8 : Same H7 (upd H7 q1 (.lst ((cs.take j).map V.str))) := same_new hq1 _
  have i8 : upd H7 q1 (.lst ((cs.take j).map V.str)) q1 = _ := upd_same
  refine ⟨_, q1, cs.take j, rfl, rfl, .inl (SqL.of i8), ?_, ?_⟩
  · rw [sum1 _ fun y hy => (hcy y (List.mem_of_mem_take hy)).1]
    show (cs.take j).length + (cs.take j).length * 0 ≤ 16777216
    rw [List.length_take]
    omega
  refine ⟨⟨_, rfl⟩, _, rfl, _, rfl, _, rfl, D, _, rfl, SqL.of (e8 _ _ hcs7), fun q2 hq2 => ?_⟩
  rw [cut_drop hatl, ← List.map_drop]
  have e9 : Same (upd H7 q1 (.lst ((cs.take j).map V.str))) (upd (upd H7 q1 (.lst ((cs.take j).map V.str))) q2 (.lst ((cs.drop j).map V.str))) := same_new hq2 _
  have i9 : upd (upd H7 q1 (.lst ((cs.take j).map V.str))) q2 (.lst ((cs.drop j).map V.str)) q2 = _ := upd_same
  refine ⟨_, q2, cs.drop j, rfl, rfl, .inl (SqL.of i9), ?_, ?_⟩
  · rw [sum1 _ fun y hy => (hcy y (List.mem_of_mem_drop hy)).1]
    show (cs.drop j).length + (cs.drop j).length * 0 ≤ 16777216
    rw [List.length_drop]
    omega
  have e79 : Same H7 (upd (upd H7 q1 (.lst ((cs.take j).map V.str))) q2 (.lst ((cs.drop j).map V.str))) := fun b o e => e9 _ _ (e8 _ _ e)
  have jh := join_letters (ys := cs.take j) fun y hy => hcy y (List.mem_of_mem_take hy)
  have jt := join_letters (ys := cs.drop j) fun y hy => hcy y (List.mem_of_mem_drop hy)
  have hlen : (Txt.join "" (cs.take j)).length + (Txt.join "" (cs.drop j)).length ≤ 6 := by
    rw [jh.2, jt.2, List.length_take, List.length_drop]
    omega
  refine ⟨_, _, rfl, small 0 (by decide), fun F hF => ?_⟩
  generalize Txt.join "" (cs.take j) = head at jh hlen
  generalize Txt.join "" (cs.drop j) = tail at jt hlen
  have s09 := s07.trans (Spent.of e79)
  generalize upd (upd H7 q1 (.lst ((cs.take j).map V.str))) q2 (.lst ((cs.drop j).map V.str)) = H9 at e79 s09 hF
  have p9 := s09.pu _ hp
  have nFp : F ≠ p := fun z => by
    rw [z] at hF
    exact p9.there hF
  have e10 : Same H9 (upd H9 F (.lst [])) := same_new hF _
  let q : Nm := ⟨way, first, step, head, tail⟩
  let σ0 : L2.St := (((((((L2.start N_law_names [V.ref p, .int (n : Nat)]).set 2 (some (.str letters))).set 3 (some (.int way))).set 4 (some (.int first))).set 5 (some (.int step))).set 7 (some (.ref D))).set 8 (some (.int (j : Nat)))).set 9 (some (.str head)) |>.set 10 (some (.str tail)) |>.set 11 (some (.ref F))
  refine ⟨_, rfl, _, rfl, by omega, by omega, ?_⟩
  have w7 := wr n
  rw [List.length_range] at w7
  refine for_it w7 (fun i σ H' => Same H9 H' ∧ Sl [12, 13, 14] σ0 σ ∧ H' F = some (.lst (((List.range i).map q.nm).map V.str))) ⟨e10, Sl.refl, upd_same⟩ (fun _ _ _ _ _ => trivial) ?_ ?_
  · rintro i v σ H10 H11 hi ⟨hs, hσ, hFl⟩ ⟨hH, z, hz, rfl⟩
    subst hH
    have ez : z = i := by
      rw [List.getElem?_range hi] at hz
      exact (Option.some.inj hz).symm
    subst ez
    have a2 : Sl [12, 13, 14] σ0 (σ.set 12 (some (.int (z : Nat)))) := hσ.set (by decide)
    have b12 : (σ.set 12 (some (.int (z : Nat))))[12]? = some (some (.int (z : Nat))) := hσ.s
    have sr := same_range q (show z < 12 by omega)
    have hlen' : q.head.length + q.tail.length ≤ 6 := hlen
    refine nm_same (K := K) (q := q) (k := z) (a2.g 3 (by decide) rfl) b12 ?_
    have a3 : Sl [12, 13, 14] σ0 ((σ.set 12 (some (.int (z : Nat)))).set 13 (some (.int (q.same z)))) := a2.set (by decide)
    have c13 : ((σ.set 12 (some (.int (z : Nat)))).set 13 (some (.int (q.same z))))[13]? = some (some (.int (q.same z))) := a2.s
    have c12 : ((σ.set 12 (some (.int (z : Nat)))).set 13 (some (.int (q.same z))))[12]? = some (some (.int (z : Nat))) := by
      rw [List.getElem?_set_ne (by decide)]
      exact b12
    have hms : 0 ≤ step * q.same z ∧ step * q.same z < 2000 := by
      rcases hstep with e | e | e | e <;> rw [e] <;> omega
    refine ⟨_, a3.g 9 (by decide) rfl, _, a3.g 2 (by decide) rfl, _, a3.g 4 (by decide) rfl, _, a3.g 5 (by decide) rfl, _, c13, _, _, rfl, rfl, mulS (by omega) (by omega), _, _, rfl, rfl, _, _, rfl, rfl, (by show (0 : Int) < 26; decide), letters, _, _, rfl, rfl, small 26 (by decide), letter_at (r26 _).1 (r26 _).2, _, _, rfl, rfl, ?_, _, a3.g 10 (by decide) rfl, _, _, rfl, rfl, ?_, ?_⟩
    · show head.length + 1 ≤ sizeLine
      exact small _ (by omega)
    · rw [len_app]
      show head.length + 1 + tail.length ≤ sizeLine
      exact small _ (by omega)
    have a4 : Sl [12, 13, 14] σ0 (((σ.set 12 (some (.int (z : Nat)))).set 13 (some (.int (q.same z)))).set 14 (some (.str (q.bas z)))) := a3.set (by decide)
    have d14 : (((σ.set 12 (some (.int (z : Nat)))).set 13 (some (.int (q.same z)))).set 14 (some (.str (q.bas z))))[14]? = some (some (.str (q.bas z))) := a3.s
    have d12 : (((σ.set 12 (some (.int (z : Nat)))).set 13 (some (.int (q.same z)))).set 14 (some (.str (q.bas z))))[12]? = some (some (.int (z : Nat))) := by
      rw [List.getElem?_set_ne (by decide)]
      exact c12
    refine nm_test (q := q) (k := z) (a4.g 3 (by decide) rfl) d12 ?_
    have fin : ∀ (σ' : L2.St) (x : Str), x = q.nm z → Sl [12, 13, 14] σ0 σ' → σ'[14]? = some (some (.str x)) → tDrop (tBM K "list" rAppend (tVar 11) (tCons (tVar 14) tNil)) { nx := fun σ H' => Same H9 H' ∧ Sl [12, 13, 14] σ0 σ ∧ H' F = some (.lst (((List.range (z + 1)).map q.nm).map V.str)), rt := Q } σ' H11 := by
      intro σ' x hx hS h14
      refine ⟨_, hS.g 11 (by decide) rfl, .inl ⟨rfl, _, SqL.of hFl⟩, _, h14, F, _, _, rfl, rfl, hFl, ?_, ?_⟩
      · rw [List.length_map, List.length_map, List.length_range]
        exact smallt _ (by omega)
      · refine ⟨fun b u e => ?_, hS, ?_⟩
        · rw [upd_ne (ne_of_none e hF)]
          exact hs _ _ e
        · rw [upd_same, List.range_succ, List.map_append, List.map_append, hx]
          rfl
    cases hx : q.ext z with
    | true =>
      refine iteT ?_
      refine ⟨_, d14, _, a4.g 2 (by decide) rfl, _, a4.g 4 (by decide) rfl, _, d12, _, _, rfl, rfl, _, _, rfl, rfl, (by show (0 : Int) < 26; decide), letters, _, _, rfl, rfl, small 26 (by decide), letter_at (r26 _).1 (r26 _).2, _, _, rfl, rfl, ?_, ?_⟩
      · show (q.bas z).length + 1 ≤ sizeLine
        rw [bas_len]
        exact small _ (by omega)
      · refine fin _ (q.bas z ++ ch ((q.first + (z : Nat)) % 26)) ?_ (a4.set (by decide)) a4.s
        unfold Nm.nm
        rw [if_pos hx]
    | false =>
      refine iteF (fin _ (q.bas z) ?_ a4 d14)
      unfold Nm.nm
      rw [if_neg (by rw [hx]; decide)]
  · rintro σ H10 ⟨hs, hσ, hFl⟩
    refine ⟨_, hσ.g 11 (by decide) rfl, k _ _ ⟨(s09.trans (Spent.of hs)).mono (by decide), F, (List.range n).map q.nm, rfl, s09.dom hp F hF, hFl, by rw [List.length_map, List.length_range], ?_, ?_⟩⟩
    · refine nodup_on List.nodup_range fun i hi j hj e => nm_inj (q := q) hstep ?_ ?_ e
      · have := List.mem_range.mp hi
        omega
      · have := List.mem_range.mp hj
        omega
    · intro x hx
      obtain ⟨i, _, rfl⟩ := List.mem_map.mp hx
      exact nm_ok (q := q) jh.1 jt.1 hlen i
end
end BX
end
section
set_option Elab.async false
set_option linter.all false
set_option maxRecDepth 100000
set_option maxHeartbeats 4000000
namespace BX
open PySem PySem.Spec PyProof.Rows L2
open C8 (Cal Mak Met pe_c pe_mk pe_mt pe_mt0 pe_gc)
section
variable {P : Program} {w : World} {K : PySem.W.Frag} {mg : Str → Option Value} {base : Heap}
/-- apart from the purse -/
theorem apart {H : Hp} {p q : Addr} {c : Nat} (h : PurseAt H p c) (n : H q = none) : q ∉ [p] := fun z => by
  have := h.there
  rw [← List.mem_singleton.mp z, n] at this
  exact this rfl
theorem ixN_of {n j : Nat} (h : j < n) : ixN n (j : Int) = some j := by
  unfold ixN
  simp
  omega
/-- three ints -/
def Three (H : Hp) (l : Addr) (x y z : Int) : Prop := H l = some (.lst [.int x, .int y, .int z])
theorem three_at {x y z i : Int} (h0 : 0 ≤ i) (h1 : i < 3) : ∃ v, atI [V.int x, .int y, .int z] i = some (.int v) ∧ (v = x ∨ v = y ∨ v = z) := by
  obtain ⟨v, e, m⟩ := atI_in (xs := [x, y, z].map V.int) h0 (by simpa using h1)
  obtain ⟨u, hu, rfl⟩ := List.mem_map.mp m
  exact ⟨u, e, by simpa using hu⟩
def spLSides : Sp := SpG (G := Addr × Addr × Int × Bool × List Int × Nat) (fun (p, b, more, deep, _, _) => [.ref p, .ref b, .int more, .bl deep])
  (fun (p, b, more, deep, bs, c) H => PurseAt H p c ∧ c ≤ 900000 ∧ b ≠ p ∧ H b = some (.lst (bs.map V.int)) ∧ (bs = [] ∨ ∃ x y z, bs = [x, y, z])) (fun (p, _, _, _, _, _) H v H' => Spent p 20 H H' ∧ ∃ (l : Addr) (x y z : Int), v = .ref l ∧ H l = none ∧ Three H' l x y z ∧ SideOk x ∧ SideOk y ∧ SideOk z)
/-- three of the kind that f tells, from turns that spend -/
theorem lc_spend3 {g : TG} {te : TE} {vs : List Nat} {σ : L2.St} {H1 : Hp} {D p : Addr} {c m : Nat} {Qd : Hp → Prop} (Ok : Int → Prop) (hp : PurseAt H1 p c) (hD : H1 D = none)
    (turn : ∀ (i : Nat) H, i < 3 → Spent p (i * m) H1 H → ∀ (Qy : V → Hp → Prop), (∀ z H4, Spent p m H H4 → Ok z → Qy (.int z) H4) → g (.int (i : Nat)) (wipe σ vs) H fun σ2 H2 => wipe σ2 vs = wipe σ vs ∧ te σ2 H2 Qy)
    (mono : ∀ v σ H (Q Q' : L2.St → Hp → Prop), (∀ σ H, Q σ H → Q' σ H) → g v σ H Q → g v σ H Q')
    (hd : ∀ H x y z, Spent p (3 * m) H1 H → Three H D x y z → Ok x → Ok y → Ok z → Qd H) :
    ∃ W : Nat → Nat → Hp → Prop, (∃ m, W 0 m (upd H1 D (.lst []))) ∧ ∀ i m H, W i m H →
      ((Itr 0 3).stop i H ∧ Qd H) ∨ ((Itr 0 3).go i H ∧ ∃ Nx : Hp → Prop, (∀ H', Nx H' → ∃ m', m' < m ∧ W (i + 1) m' H') ∧ ∀ x H', (Itr 0 3).yld i H x H' → g x (wipe σ vs) H' fun σ2 H2 => wipe σ2 vs = wipe σ vs ∧ tYes σ2 H2 fun b H3 =>
        if b = true then te σ2 H3 fun y H4 => ∃ acc, H4 D = some (.lst acc) ∧ acc.length < sizeLine ∧ Nx (upd H4 D (.lst (acc ++ [y]))) else Nx H3) := by
  have npD := apart hp hD
  have nDp : D ≠ p := fun z => npD (List.mem_singleton.mpr z)
  have w3 := wr 3
  rw [List.length_range] at w3
  refine lc_it w3 (fun i H => Spent p (i * m) H1 H ∧ ∃ l : List Int, H D = some (.lst (l.map V.int)) ∧ l.length = i ∧ ∀ z ∈ l, Ok z) ⟨(Spent.of (same_new hD _)).mono (by omega), [], upd_same, rfl, fun _ h => by cases h⟩ (fun _ _ _ _ => trivial) ?_ ?_
  · rintro i v H H' hi ⟨hs, l, hl, hll, hok⟩ ⟨hH, z, hz, rfl⟩
    subst hH
    have ez : z = i := by
      rw [List.getElem?_range hi] at hz
      exact (Option.some.inj hz).symm
    subst ez
    refine mono _ _ _ _ _ (fun σ2 H2 q => ⟨q.1, yes_of q.2⟩) (turn z H' hi hs _ fun y H4 s4 hy => ?_)
    have hl4 := s4.chg _ _ npD hl
    refine ⟨l.map V.int, hl4, ?_, ?_, l ++ [y], ?_, ?_, ?_⟩
    · rw [List.length_map]
      exact smallt _ (by omega)
    · have := (hs.trans s4).at' (o := .lst (l.map V.int ++ [.int y])) hD nDp
      exact this.mono (by rw [Nat.add_mul]; omega)
    · rw [upd_same, List.map_append]
      rfl
    · rw [List.length_append, hll]
      rfl
    · intro u hu
      rcases List.mem_append.mp hu with e | e
      · exact hok u e
      · rw [List.mem_singleton.mp e]
        exact hy
  · rintro H ⟨hs, l, hl, hll, hok⟩
    match l, hll with
    | [x, y, z], _ => exact hd H x y z hs hl (hok x (by simp)) (hok y (by simp)) (hok z (by simp))
abbrev N_law_sides : List PySem.Str := ["_law_purse_here", "_law_base", "_law_more", "_law_deep", "_law_way", "_law_great", "_law_menu", "_law_first", "_law_second", "_law_found", "_law_at", "_law_k", "_law_side"]
theorem sc_law_sides : FnScope N_law_sides ["_law_purse_here", "_law_base", "_law_more", "_law_deep"] d_law_sides.scope := ⟨rfl, rfl, rfl, by decide +kernel, rfl, by decide +kernel, by decide +kernel⟩
theorem c_law_sides (T : TX K mg) : Cal P w K mg base 2 "_law_sides" spLSides [] := by
  refine calD T T.f_law_sides rfl T.g_law_sides (bindsN rfl fun _ _ _ _ _ _ us hl => match us, hl with | [_, _, _, _], _ => rfl) sc_law_sides (fun _ => rfl) fun cdv A outer s0 H Q E f g hr hp k => ?_
  obtain ⟨p, b, more, deep, bs, c⟩ := g
  obtain ⟨hp, hc, hbp, hb, hbs⟩ := hp
  have hbn : b ∉ [p] := fun z => hbp (List.mem_singleton.mp z)
  refine ⟨_, (pss_cons (ps_set (i := 4) sc_law_sides.nd rfl (Or.inl rfl) (pe_c (c_law_take T) hr (by decide) rfl (pa_cons (pv 0) (pa_cons pe_int pa_nil))))
    (C8.pss_cut (ps_if (PW.pt (pw_and (pt_val (pv 3)) (pw_and1 (pt_cmpR (op_lt) (pv 4) pe_int (nomark _))))) (pss_one (ps_set (i := 4) sc_law_sides.nd rfl (Or.inl rfl) pe_int)) pss_nil)
    (C8.pss_cut (ps_if (PW.pt (pw_or (pt_cmpR (op_lt) (pv 4) pe_int (nomark _)) (pw_or1 (PW.pt (pw_and (pt_cmpR (op_lt) (pv 4) pe_int (nomark _)) (pw_and1 (pt_cmpR (op_eqDK K rfl hr.units) (pv 1) (pe_lst pa_nil) (nomark _)))))))) (pss_cons (ps_set (i := 5) sc_law_sides.nd rfl (Or.inr rfl) (pe_ix (ix_listK K rfl) (pe_lst (pa_cons pe_int (pa_cons pe_int (pa_cons pe_int pa_nil)))) (pe_c (c_law_take T) hr (by decide) rfl (pa_cons (pv 0) (pa_cons pe_int pa_nil))) (fun _ _ => rfl)))
      (pss_one (ps_ret (pe_lc (own := [("_law_k", 11)]) rfl sc_law_sides.nd (pi_range1 rfl T.n_range (pa_cons pe_int pa_nil)) (blkOk_by (own := [("_law_k", 11)]) (N := N_law_sides) (sc := d_law_sides.scope) (by decide +kernel)) (fun _ _ _ _ _ => (pg_name (i := 11) sc_law_sides.nd rfl (Or.inl rfl))) (fun _ _ _ _ _ => pts_nil) (fun _ _ _ _ _ => (pe_op op_add pe_int (pe_c (c_law_take T) hr (by decide) rfl (pa_cons (pv 0) (pa_cons (pv 5) pa_nil))))))))) pss_nil)
    (C8.pss_cut (ps_if (pt_cmpR (op_eq) (pv 4) pe_int (nomark _)) (pss_cons (ps_set (i := 6) sc_law_sides.nd rfl (Or.inr rfl) (pe_lst (pa_cons pe_int (pa_cons pe_int (pa_cons (pe_op op_add pe_int (pe_c (c_law_take T) hr (by decide) rfl (pa_cons (pv 0) (pa_cons pe_int pa_nil)))) (pa_cons (pe_op op_add pe_int (pe_c (c_law_take T) hr (by decide) rfl (pa_cons (pv 0) (pa_cons pe_int pa_nil)))) pa_nil))))))
      (pss_one (ps_ret (pe_lc (own := [("_law_k", 11)]) rfl sc_law_sides.nd (pi_range1 rfl T.n_range (pa_cons pe_int pa_nil)) (blkOk_by (own := [("_law_k", 11)]) (N := N_law_sides) (sc := d_law_sides.scope) (by decide +kernel)) (fun _ _ _ _ _ => (pg_name (i := 11) sc_law_sides.nd rfl (Or.inl rfl))) (fun _ _ _ _ _ => pts_nil) (fun _ _ _ _ _ => (pe_ix (ix_listK K rfl) (pv 6) (pe_c (c_law_take T) hr (by decide) rfl (pa_cons (pv 0) (pa_cons pe_int pa_nil))) (fun _ _ => rfl))))))) pss_nil)
    (pss_cons (ps_set (i := 7) sc_law_sides.nd rfl (Or.inl rfl) (pe_c (c_law_take T) hr (by decide) rfl (pa_cons (pv 0) (pa_cons pe_int pa_nil))))
    (pss_cons (ps_set (i := 8) sc_law_sides.nd rfl (Or.inl rfl) (pe_op op_mod (pe_op op_add (pe_op op_add (pv 7) pe_int) (pe_c (c_law_take T) hr (by decide) rfl (pa_cons (pv 0) (pa_cons pe_int pa_nil)))) pe_int))
    (pss_cons (ps_set (i := 9) sc_law_sides.nd rfl (Or.inl rfl) (pe_lst (pa_cons (pe_ix (ix_listK K rfl) (pv 1) (pv 7) (fun _ _ => rfl)) (pa_cons (pe_ix (ix_listK K rfl) (pv 1) (pv 8) (fun _ _ => rfl)) (pa_cons (pe_ix (ix_listK K rfl) (pv 1) (pe_op op_sub (pe_op op_sub pe_int (pv 7)) (pv 8)) (fun _ _ => rfl)) pa_nil)))))
    (C8.pss_cut (ps_if (pt_cmpR (op_lt) (pv 4) pe_int (nomark _)) (pss_one (ps_setLc (i := 9) (own := [("_law_side", 12)]) rfl sc_law_sides.nd rfl rfl (sw_true rfl rfl rfl (by decide +kernel)) (pi_listK K rfl (pv 9)) (blkOk_by (own := [("_law_side", 12)]) (N := N_law_sides) (sc := d_law_sides.scope) (by decide +kernel)) (fun _ _ _ _ _ => (pg_name (i := 12) sc_law_sides.nd rfl (Or.inl rfl))) (fun _ _ _ _ _ => pts_nil) (fun _ _ _ _ _ => (pe_op op_add (pe_op op_add (pv 12) (pv 2)) (pe_ix (ix_listK K rfl) (pe_lst (pa_cons pe_int (pa_cons pe_int (pa_cons pe_int (pa_cons (pe_c (c_law_take T) hr (by decide) rfl (pa_cons (pv 0) (pa_cons pe_int pa_nil))) pa_nil))))) (pe_c (c_law_take T) hr (by decide) rfl (pa_cons (pv 0) (pa_cons pe_int pa_nil))) (fun _ _ => rfl)))))) pss_nil)
    (C8.pss_cut (ps_if (pt_cmpR (op_eq) (pv 4) pe_int (nomark _)) (pss_cons (ps_set (i := 10) sc_law_sides.nd rfl (Or.inl rfl) (pe_c (c_law_take T) hr (by decide) rfl (pa_cons (pv 0) (pa_cons pe_int pa_nil))))
      (pss_one (ps_asg (pe_op op_sub (pe_op op_sub (pe_ix (ix_listK K rfl) (pv 9) (pv 10) (fun _ _ => rfl)) pe_int) (pe_ix (ix_listK K rfl) (pe_lst (pa_cons pe_int (pa_cons (pe_c (c_law_take T) hr (by decide) rfl (pa_cons (pv 0) (pa_cons pe_int pa_nil))) pa_nil))) (pe_c (c_law_take T) hr (by decide) rfl (pa_cons (pv 0) (pa_cons pe_int pa_nil))) (fun _ _ => rfl))) (pg_sub (pv 9) (pv 10) set_list)))) pss_nil)
    (pss_one (ps_ret (pe_lc (own := [("_law_side", 12)]) rfl sc_law_sides.nd (pi_listK K rfl (pv 9)) (blkOk_by (own := [("_law_side", 12)]) (N := N_law_sides) (sc := d_law_sides.scope) (by decide +kernel)) (fun _ _ _ _ _ => (pg_name (i := 12) sc_law_sides.nd rfl (Or.inl rfl))) (fun _ _ _ _ _ => pts_nil) (fun _ _ _ _ _ => (pe_callB (call_max2 rfl) rfl T.n_max b_max (pa_cons pe_int (pa_cons (pe_callB (call_min2 rfl) rfl T.n_min b_min (pa_cons pe_int (pa_cons (pv 12) pa_nil))) pa_nil)))))))))))))))), ?_⟩
  refine ⟨_, rfl, (p, 7, c), rfl, ⟨hp, by omega, by decide, by decide⟩, fun v H1 hv => ?_⟩
  obtain ⟨s1, way, rfl, l1, u1⟩ := hv
  have p1 := s1.pu _ hp
  let σ0 : L2.St := L2.start N_law_sides [V.ref p, .ref b, .int more, .bl deep]
  refine ⟨fun σ H' => H' = H1 ∧ Sl [4] σ0 σ ∧ ∃ way' : Int, σ[4]? = some (some (.int way')) ∧ 0 ≤ way' ∧ way' < 7, ?_, ?_⟩
  · refine ⟨_, rfl, deep, rfl, ?_⟩
    have hS : Sl [4] σ0 (σ0.set 4 (some (.int way))) := Sl.refl.set (by decide)
    cases deep with
    | false => exact iteF (iteF ⟨rfl, hS, way, rfl, l1, u1⟩)
    | true =>
      refine iteT ⟨_, rfl, _, _, rfl, rfl, _, rfl, ?_⟩
      refine ite2 (fun _ => ⟨rfl, hS.set (by decide), 3, rfl, by decide, by decide⟩) (fun _ => ⟨rfl, hS, way, rfl, l1, u1⟩)
  rintro σ H' ⟨hH, hσ, way', w4, l4, u4⟩
  subst hH
  have hb1 := s1.chg _ _ hbn hb
  -- small ones, any ones
  refine ⟨fun σ' H' => Sl [4] σ0 σ' ∧ Same H' H' ∧ Spent p 1 H H' ∧ H' b = some (.lst (bs.map V.int)) ∧ σ'[4]? = some (some (.int way')) ∧ (way' = 6 ∨ way' < 6 ∧ ∃ x y z, bs = [x, y, z]), ?_, ?_⟩
  · have some3 : ∀ (σ' : L2.St) (H2 : Hp), Sl [4] σ0 σ' → Spent p 1 H H2 → tSeq (tAsg (tOp (rIxL K) (tLst (tCons (tC (.int 9)) (tCons (tC (.int 30)) (tCons (tC (.int 100000)) tNil)))) (tCall spTake [] C8.E0 (tCons (tVar 0) (tCons (tC (.int 3)) tNil)))) (gName 5))
        (tRet (tLc (iRng1 (tCons (tC (.int 3)) tNil)) (gName 11) tYes (tOp (rI0 fun i j => V.int (i + j)) (tC (.int 1)) (tCall spTake [] C8.E0 (tCons (tVar 0) (tCons (tVar 5) tNil)))) [11])) { nx := fun σ' H' => Sl [4] σ0 σ' ∧ Same H' H' ∧ Spent p 1 H H' ∧ H' b = some (.lst (bs.map V.int)) ∧ σ'[4]? = some (some (.int way')) ∧ (way' = 6 ∨ way' < 6 ∧ ∃ x y z, bs = [x, y, z]), rt := Q } σ' H2 := by
      intro σ' H2 hS s2
      have p2 := s2.pu _ hp
      refine ⟨small 3 (by decide), fun q hq => ?_⟩
      have e3 := same_new hq (.lst [.int 9, .int 30, .int 100000])
      refine ⟨_, hS.g 0 (by decide) rfl, (p, 3, _), rfl, ⟨p2.same e3, by omega, by decide, by decide⟩, fun v H4 hv => ?_⟩
      obtain ⟨s4, i4, rfl, la, ua⟩ := hv
      have hq4 : H4 q = some (.lst [.int 9, .int 30, .int 100000]) := s4.chg _ _ (apart p2 hq) upd_same
      obtain ⟨gr, hgr, hgr2⟩ := three_at (x := 9) (y := 30) (z := 100000) la ua
      refine ⟨q, _, _, _, rfl, rfl, SqL.of hq4, hgr, ?_⟩
      have s04 : Spent p 2 H H4 := (s2.trans (Spent.of e3)).trans s4
      have p4 := s04.pu _ hp
      have hS5 : Sl [4, 5, 11] σ0 (σ'.set 5 (some (.int gr))) := Sl.set ⟨hS.len, fun j hj => hS.at' j fun z => hj (by rw [List.mem_singleton.mp z]; simp)⟩ (by decide)
      have h5 : (σ'.set 5 (some (.int gr)))[5]? = some (some (.int gr)) := List.getElem?_set_self (by rw [hS.len]; exact Nat.le_of_ble_eq_true rfl)
      refine ⟨3, rfl, by decide, by decide, fun D hD => ?_⟩
      refine lc_spend3 (m := 1) SideOk p4 hD (fun i H5 hi s5 Qy y => ⟨wipe1, ?_⟩) gN fun H5 x y z s5 ht hx hy hz => ?_
      · have p5 := s5.pu _ p4
        have w5 : ((wipe (σ'.set 5 (some (.int gr))) [11]).set 11 (some (.int (i : Nat))))[5]? = some (some (.int gr)) := by
          show (((σ'.set 5 (some (.int gr))).set 11 none).set 11 (some (V.int (i : Nat))))[5]? = _
          rw [List.set_set, List.getElem?_set_ne (by decide)]
          exact h5
        refine ⟨_, (hS5.w1 (by decide)).g 0 (by decide) rfl, _, w5, (p, gr, _), rfl, ⟨p5, by omega, by omega, by omega⟩, fun v H6 hv => ?_⟩
        obtain ⟨s6, z6, rfl, l6, u6⟩ := hv
        exact ⟨_, _, rfl, rfl, y _ _ s6 ⟨by omega, by omega⟩⟩
      · exact k _ _ ⟨(s04.trans s5).mono (by decide), D, x, y, z, rfl, s04.dom hp D hD, ht, hx, hy, hz⟩
    refine ⟨_, w4, _, _, rfl, rfl, _, rfl, ?_⟩
    by_cases c2 : way' < 2
    · rw [decide_eq_true c2]
      exact iteT (iteT (some3 σ _ hσ s1))
    · rw [decide_eq_false c2]
      refine iteF ⟨_, w4, _, _, rfl, rfl, _, rfl, ?_⟩
      by_cases c6 : way' < 6
      · rw [decide_eq_true c6]
        refine iteT ⟨_, hσ.g 1 (by decide) rfl, small 0 (by decide), fun q hq => ?_⟩
        have e3 := same_new hq (.lst [])
        have i6 : upd H' q (.lst []) q = some (.lst (([] : List Int).map V.int)) := upd_same
        refine ⟨_, _, dp_ints (e3 _ _ hb1), dp_ints i6, sh_ints, sh_ints, _, rfl, ?_⟩
        show if (PyData.eqv (.list (bs.map PyData.int)) (.list [])) = true then _ else _
        rw [eqv_nil]
        have s13 : Spent p 1 H (upd H' q (.lst [])) := s1.trans (Spent.of e3)
        rcases hbs with rfl | ⟨x, y, z, rfl⟩
        · exact iteT (some3 σ _ hσ s13)
        · exact iteF ⟨hσ, fun _ _ h => h, s13, e3 _ _ hb1, w4, .inr ⟨c6, x, y, z, rfl⟩⟩
      · rw [decide_eq_false c6]
        exact iteF (iteF ⟨hσ, fun _ _ h => h, s1, hb1, w4, .inl (by omega)⟩)
  rintro σ2 H2 ⟨hσ2, _, s2, hb2, w42, hway⟩
  have p2 := s2.pu _ hp
  -- the menu
  refine ⟨fun σ' H' => Sl [4] σ0 σ' ∧ H' = H2 ∧ σ'[4]? = some (some (.int way')) ∧ way' < 6 ∧ ∃ x y z, bs = [x, y, z], ?_, ?_⟩
  · refine ⟨_, w42, rfl, _, rfl, ?_⟩
    rcases hway with e6 | ⟨c6, hx⟩
    · rw [e6, decide_eq_true rfl]
      refine iteT ?_
      refine ⟨_, hσ2.g 0 (by decide) rfl, (p, 100000, _), rfl, ⟨p2, by omega, by decide, by decide⟩, fun v H3 hv => ?_⟩
      obtain ⟨s3, z3, rfl, l3, u3⟩ := hv
      have p3 := s3.pu _ p2
      refine ⟨_, _, rfl, rfl, _, hσ2.g 0 (by decide) rfl, (p, 100000, _), rfl, ⟨p3, by omega, by decide, by decide⟩, fun v H4 hv => ?_⟩
      obtain ⟨s4, z4, rfl, l4', u4'⟩ := hv
      have p4 := s4.pu _ p3
      refine ⟨_, _, rfl, rfl, small 4 (by decide), fun q hq => ?_⟩
      have e5 := same_new hq (.lst (([1, 100000, 1 + z3, 1 + z4] : List Int).map V.int))
      have i5 : upd H4 q (.lst (([1, 100000, 1 + z3, 1 + z4] : List Int).map V.int)) q = _ := upd_same
      have s05 : Spent p 3 H (upd H4 q (.lst (([1, 100000, 1 + z3, 1 + z4] : List Int).map V.int))) := ((s2.trans s3).trans s4).trans (Spent.of e5)
      have p5 := s05.pu _ hp
      have hS6 : Sl [4, 6, 11] σ0 (σ2.set 6 (some (.ref q))) := Sl.set ⟨hσ2.len, fun j hj => hσ2.at' j fun z => hj (by rw [List.mem_singleton.mp z]; simp)⟩ (by decide)
      have h6 : (σ2.set 6 (some (.ref q)))[6]? = some (some (.ref q)) := List.getElem?_set_self (by rw [hσ2.len]; exact Nat.le_of_ble_eq_true rfl)
      refine ⟨3, rfl, by decide, by decide, fun D hD => ?_⟩
      have nq : q ∉ [p] := apart p4 hq
      refine lc_spend3 (m := 1) SideOk p5 hD (fun i H6 hi s6 Qy y => ⟨wipe1, ?_⟩) gN fun H6 x y z s6 ht hx hy hz => ?_
      · have p6 := s6.pu _ p5
        have w6 : ((wipe (σ2.set 6 (some (.ref q))) [11]).set 11 (some (.int (i : Nat))))[6]? = some (some (.ref q)) := by
          show (((σ2.set 6 (some (.ref q))).set 11 none).set 11 (some (V.int (i : Nat))))[6]? = _
          rw [List.set_set, List.getElem?_set_ne (by decide)]
          exact h6
        refine ⟨_, w6, _, (hS6.w1 (by decide)).g 0 (by decide) rfl, (p, 4, _), rfl, ⟨p6, by omega, by decide, by decide⟩, fun v H7 hv => ?_⟩
        obtain ⟨s7, z7, rfl, l7, u7⟩ := hv
        obtain ⟨v, hv1, hv2⟩ := atI_in (xs := ([1, 100000, 1 + z3, 1 + z4] : List Int).map V.int) l7 (by simpa using u7)
        obtain ⟨u, hu, rfl⟩ := List.mem_map.mp hv2
        refine ⟨q, _, _, _, rfl, rfl, SqL.of (s7.chg _ _ nq (s6.chg _ _ nq i5)), hv1, y _ _ s7 ?_⟩
        simp only [List.mem_cons, List.not_mem_nil, or_false] at hu
        exact ⟨by omega, by omega⟩
      · exact k _ _ ⟨(s05.trans s6).mono (by decide), D, x, y, z, rfl, s05.dom hp D hD, ht, hx, hy, hz⟩
    · rw [decide_eq_false (fun z => by have := V.int.inj z; omega)]
      exact iteF ⟨hσ2, rfl, w42, c6, hx⟩
  rintro σ3 H3 ⟨hσ3, hH, w43, c6, bx, by', bz, rfl⟩
  subst hH
  -- first, second
  refine ⟨_, hσ3.g 0 (by decide) rfl, (p, 3, _), rfl, ⟨p2, by omega, by decide, by decide⟩, fun v H4 hv => ?_⟩
  obtain ⟨s4, fi, rfl, lf, uf⟩ := hv
  have p4 := s4.pu _ p2
  have hσ4 : Sl [4, 7, 8, 9, 10, 12] σ0 (σ3.set 7 (some (.int fi))) := Sl.set ⟨hσ3.len, fun j hj => hσ3.at' j fun z => hj (by rw [List.mem_singleton.mp z]; simp)⟩ (by decide)
  have h47 : (σ3.set 7 (some (.int fi)))[7]? = some (some (.int fi)) := List.getElem?_set_self (by rw [hσ3.len]; exact Nat.le_of_ble_eq_true rfl)
  have h44 : (σ3.set 7 (some (.int fi)))[4]? = some (some (.int way')) := by
    rw [List.getElem?_set_ne (by decide)]
    exact w43
  refine ⟨_, h47, _, _, rfl, rfl, _, hσ4.g 0 (by decide) rfl, (p, 2, _), rfl, ⟨p4, by omega, by decide, by decide⟩, fun v H5 hv => ?_⟩
  obtain ⟨s5, tk, rfl, lt, ut⟩ := hv
  have p5 := s5.pu _ p4
  refine ⟨_, _, rfl, rfl, _, _, rfl, rfl, (by show (0 : Int) < 3; decide), ?_⟩
  have hs3 := modR (fi + 1 + tk) (show (0 : Int) < 3 by decide)
  have hne : 0 ≤ 3 - fi - (fi + 1 + tk) % 3 ∧ 3 - fi - (fi + 1 + tk) % 3 < 3 := by omega
  have hb5 : H5 b = some (.lst [.int bx, .int by', .int bz]) := s5.chg _ _ hbn (s4.chg _ _ hbn hb2)
  have hσ5 : Sl [4, 7, 8, 9, 10, 12] σ0 ((σ3.set 7 (some (.int fi))).set 8 (some (.int ((fi + 1 + tk) % 3)))) := hσ4.set (by decide)
  have h58 : ((σ3.set 7 (some (.int fi))).set 8 (some (.int ((fi + 1 + tk) % 3))))[8]? = some (some (.int ((fi + 1 + tk) % 3))) := hσ4.s
  have h57 : ((σ3.set 7 (some (.int fi))).set 8 (some (.int ((fi + 1 + tk) % 3))))[7]? = some (some (.int fi)) := by
    rw [List.getElem?_set_ne (by decide)]
    exact h47
  have h54 : ((σ3.set 7 (some (.int fi))).set 8 (some (.int ((fi + 1 + tk) % 3))))[4]? = some (some (.int way')) := by
    rw [List.getElem?_set_ne (by decide)]
    exact h44
  obtain ⟨v1, a1, _⟩ := three_at (x := bx) (y := by') (z := bz) lf uf
  obtain ⟨v2, a2, _⟩ := three_at (x := bx) (y := by') (z := bz) hs3.1 hs3.2
  obtain ⟨v3, a3, _⟩ := three_at (x := bx) (y := by') (z := bz) hne.1 hne.2
  refine ⟨_, hσ5.g 1 (by decide) rfl, _, h57, b, _, _, _, rfl, rfl, SqL.of hb5, a1, _, hσ5.g 1 (by decide) rfl, _, h58, b, _, _, _, rfl, rfl, SqL.of hb5, a2, _, hσ5.g 1 (by decide) rfl, _, h57, _, _, rfl, rfl, _, h58, _, _, rfl, rfl, b, _, _, _, rfl, rfl, SqL.of hb5, a3, small 3 (by decide), fun F hF => ?_⟩
  have e6 := same_new hF (.lst [.int v1, .int v2, .int v3])
  have i6 : upd H5 F (.lst [.int v1, .int v2, .int v3]) F = some (.lst [.int v1, .int v2, .int v3]) := upd_same
  have s06 : Spent p 3 H (upd H5 F (.lst [.int v1, .int v2, .int v3])) := (((s2.trans s4).trans s5).trans (Spent.of e6)).mono (by decide)
  have hσ6 : Sl [4, 7, 8, 9, 10, 12] σ0 (((σ3.set 7 (some (.int fi))).set 8 (some (.int ((fi + 1 + tk) % 3)))).set 9 (some (.ref F))) := hσ5.set (by decide)
  have h69 : (((σ3.set 7 (some (.int fi))).set 8 (some (.int ((fi + 1 + tk) % 3)))).set 9 (some (.ref F)))[9]? = some (some (.ref F)) := hσ5.s
  have h64 : (((σ3.set 7 (some (.int fi))).set 8 (some (.int ((fi + 1 + tk) % 3)))).set 9 (some (.ref F)))[4]? = some (some (.int way')) := by
    rw [List.getElem?_set_ne (by decide)]
    exact h54
  have F0 : H F = none := (s2.trans (s4.trans s5)).dom hp F hF
  -- more
  refine ⟨fun σ' H' => Sl [4, 7, 8, 9, 10, 12] σ0 σ' ∧ Spent p 9 H H' ∧ σ'[4]? = some (some (.int way')) ∧ ∃ G x y z, σ'[9]? = some (some (.ref G)) ∧ Three H' G x y z ∧ H G = none, ?_, ?_⟩
  · refine ⟨_, h64, _, _, rfl, rfl, _, rfl, ?_⟩
    by_cases c5 : way' < 5
    · rw [decide_eq_true c5]
      refine iteT ⟨_, h69, F, rfl, ⟨_, SqL.of i6⟩, fun D hD => ?_⟩
      have p6 := s06.pu _ hp
      have npD := apart p6 hD
      have nDp : D ≠ p := fun z => npD (List.mem_singleton.mpr z)
      have npF : F ∉ [p] := apart p5 hF
      generalize upd H5 F (.lst [.int v1, .int v2, .int v3]) = H6 at i6 s06 hD p6
      generalize ((σ3.set 7 (some (.int fi))).set 8 (some (.int ((fi + 1 + tk) % 3)))).set 9 (some (.ref F)) = σ6 at hσ6 h69 h64
      refine lc_it (wl (K := K) (a := F) [v1, v2, v3] V.int) (fun i H' => Spent p (i * 2) H6 H' ∧ ∃ l : List Int, H' D = some (.lst (l.map V.int)) ∧ l.length = i) ⟨(Spent.of (same_new hD _)).mono (by omega), [], upd_same, rfl⟩ (fun i H' _ h => SqL.of (h.1.chg _ _ npF i6)) ?_ ?_
      · rintro i v H7 H8 hi ⟨hs, l, hl, hll⟩ ⟨hH, z, hz, rfl⟩
        subst hH
        have hi3 : i < 3 := hi
        have p8 := hs.pu _ p6
        refine ⟨wipe1, yes_of ?_⟩
        have hwS : Sl [4, 7, 8, 9, 10, 12] σ0 ((wipe σ6 [12]).set 12 (some (.int z))) := hσ6.w1 (by decide)
        refine ⟨_, hσ6.s1, _, hwS.g 2 (by decide) rfl, _, _, rfl, rfl, _, hwS.g 0 (by decide) rfl, (p, 9, _), rfl, ⟨p8, by omega, by decide, by decide⟩, fun v H9 hv => ?_⟩
        obtain ⟨s9, z9, rfl, l9, u9⟩ := hv
        have p9 := s9.pu _ p8
        refine ⟨small 4 (by decide), fun q hq => ?_⟩
        have e10 := same_new hq (.lst (([0, 0, 1, z9] : List Int).map V.int))
        have i10 : upd H9 q (.lst (([0, 0, 1, z9] : List Int).map V.int)) q = _ := upd_same
        refine ⟨_, hwS.g 0 (by decide) rfl, (p, 4, _), rfl, ⟨p9.same e10, by omega, by decide, by decide⟩, fun v H11 hv => ?_⟩
        obtain ⟨s11, z11, rfl, l11, u11⟩ := hv
        obtain ⟨v, hv1, hv2⟩ := atI_in (xs := ([0, 0, 1, z9] : List Int).map V.int) l11 (by simpa using u11)
        obtain ⟨u, hu, rfl⟩ := List.mem_map.mp hv2
        have s811 : Spent p 2 H8 H11 := (s9.trans (Spent.of e10)).trans s11
        refine ⟨q, _, _, _, rfl, rfl, SqL.of (s11.chg _ _ (apart p9 hq) i10), hv1, _, _, rfl, rfl, l.map V.int, s811.chg _ _ npD hl, ?_, ?_, l ++ [z + more + u], ?_, ?_⟩
        · rw [List.length_map]
          exact smallt _ (by omega)
        · exact ((hs.trans s811).at' hD nDp).mono (by omega)
        · rw [upd_same, List.map_append]
          rfl
        · rw [List.length_append, hll]
          rfl
      · rintro H7 ⟨hs, l, hl, hll⟩
        match l, hll with
        | [x, y, z], _ =>
          refine ⟨hσ6.set (by decide), (s06.trans hs).mono (by show 3 + 3 * 2 ≤ 9; decide), ?_, D, x, y, z, hσ6.s, hl, s06.dom hp D hD⟩
          rw [List.getElem?_set_ne (by decide)]
          exact h64
    · rw [decide_eq_false c5]
      exact iteF ⟨hσ6, s06.mono (by decide), h64, F, v1, v2, v3, h69, i6, F0⟩
  rintro σ7 H7 ⟨hσ7, s7, h74, G, x, y, z, h79, hG, hG0⟩
  have p7 := s7.pu _ hp
  have nG : G ∉ [p] := apart hp hG0
  have nGp : G ≠ p := fun q => nG (List.mem_singleton.mpr q)
  refine ⟨fun σ' H' => Sl [4, 7, 8, 9, 10, 12] σ0 σ' ∧ Spent p 12 H H' ∧ σ'[9]? = some (some (.ref G)) ∧ ∃ x y z, Three H' G x y z, ?_, ?_⟩
  · refine ⟨_, h74, rfl, _, rfl, ?_⟩
    by_cases c4 : way' = 4
    · rw [decide_eq_true (congrArg V.int c4)]
      refine iteT ⟨_, hσ7.g 0 (by decide) rfl, (p, 3, _), rfl, ⟨p7, by omega, by decide, by decide⟩, fun v H8 hv => ?_⟩
      obtain ⟨s8, z8, rfl, l8, u8⟩ := hv
      have p8 := s8.pu _ p7
      have hσ8 : Sl [4, 7, 8, 9, 10, 12] σ0 (σ7.set 10 (some (.int z8))) := hσ7.set (by decide)
      have h810 : (σ7.set 10 (some (.int z8)))[10]? = some (some (.int z8)) := hσ7.s
      have h89 : (σ7.set 10 (some (.int z8)))[9]? = some (some (.ref G)) := by
        rw [List.getElem?_set_ne (by decide)]
        exact h79
      have hG8 : Three H8 G x y z := s8.chg _ _ nG hG
      obtain ⟨v1', b1, _⟩ := three_at (x := x) (y := y) (z := z) l8 u8
      refine ⟨_, h89, _, h810, G, _, _, _, rfl, rfl, SqL.of hG8, b1, _, _, rfl, rfl, _, hσ8.g 0 (by decide) rfl, (p, 5, _), rfl, ⟨p8, by omega, by decide, by decide⟩, fun v H9 hv => ?_⟩
      obtain ⟨s9, z9, rfl, l9, u9⟩ := hv
      have p9 := s9.pu _ p8
      refine ⟨small 2 (by decide), fun q hq => ?_⟩
      have e10 := same_new hq (.lst (([0, z9] : List Int).map V.int))
      have i10 : upd H9 q (.lst (([0, z9] : List Int).map V.int)) q = _ := upd_same
      refine ⟨_, hσ8.g 0 (by decide) rfl, (p, 2, _), rfl, ⟨p9.same e10, by omega, by decide, by decide⟩, fun v H11 hv => ?_⟩
      obtain ⟨s11, z11, rfl, l11, u11⟩ := hv
      obtain ⟨v, hv1, hv2⟩ := atI_in (xs := ([0, z9] : List Int).map V.int) l11 (by simpa using u11)
      obtain ⟨u, hu, rfl⟩ := List.mem_map.mp hv2
      have s711 : Spent p 3 H7 H11 := ((s8.trans s9).trans (Spent.of e10)).trans s11
      have hG11 : H11 G = some (.lst [.int x, .int y, .int z]) := s711.chg _ _ nG hG
      refine ⟨q, _, _, _, rfl, rfl, SqL.of (s11.chg _ _ (apart p9 hq) i10), hv1, _, _, rfl, rfl, _, h89, _, h810, G, _, z8, z8.toNat, rfl, rfl, hG11, ?_, ?_⟩
      · have := ixN_of (n := 3) (j := z8.toNat) (by omega)
        rwa [Int.toNat_of_nonneg l8] at this
      · refine ⟨hσ8, ?_, h89, ?_⟩
        · exact ((s7.trans s711).at' hG0 nGp).mono (by decide)
        · have : z8 = 0 ∨ z8 = 1 ∨ z8 = 2 := by omega
          rcases this with rfl | rfl | rfl
          · exact ⟨_, _, _, upd_same⟩
          · exact ⟨_, _, _, upd_same⟩
          · exact ⟨_, _, _, upd_same⟩
    · rw [decide_eq_false (fun q => c4 (V.int.inj q))]
      exact iteF ⟨hσ7, s7.mono (by decide), h79, x, y, z, hG⟩
  rintro σ8 H8 ⟨hσ8, s8, h89, x, y, z, hG8⟩
  have p8 := s8.pu _ hp
  refine ⟨_, h89, G, rfl, ⟨_, SqL.of hG8⟩, fun D hD => ?_⟩
  refine lc_map (J := Itl _ G) (l := [x, y, z]) V.int (fun i => V.int (if (if i < 100000 then i else 100000) > 1 then (if i < 100000 then i else 100000) else 1)) (wl [x, y, z] V.int) (fun _ e => sg hG8 e) (by show 3 ≤ 1000; decide) hD ?_ gN ?_
  · intro i H9 hi hs Qy y
    exact ⟨wipe1, _, hσ8.s1, _, _, rfl, _, _, rfl, y _ fun _ _ h => h⟩
  · intro H9 hs hD9
    refine k _ _ ⟨(s8.trans (Spent.of hs)).mono (by decide), D, _, _, _, rfl, s8.dom hp D hD, hD9, ?_, ?_, ?_⟩
    all_goals
      constructor
      · split <;> omega
      · split <;> split at * <;> omega
end
end BX
end
section
set_option Elab.async false
set_option linter.all false
set_option maxRecDepth 100000
set_option maxHeartbeats 4000000
namespace BX
open PySem PySem.Spec PyProof.Rows L2
open C8 (Cal Mak Met pe_c pe_mk pe_mt pe_mt0 pe_gc)
/-! ### rows -/
/-- a row's list at a -/
def RowAt (H : Hp) (a : Addr) (r : Row) : Prop := ∃ s l, H a = some (.lst [.str r.name, .ref s, .int r.wall, .int r.weight, .int r.bears, .ref l]) ∧ Three H s r.a r.b r.c ∧ H l = some (.lst (r.marks.map V.str))
theorem RowAt.same {H H' : Hp} {a : Addr} {r : Row} (e : Same H H') (h : RowAt H a r) : RowAt H' a r := by
  obtain ⟨s, l, h1, h2, h3⟩ := h
  exact ⟨s, l, e _ _ h1, e _ _ h2, e _ _ h3⟩
/-! rows as data -/
def rowD (r : Row) : PyData := .list [.str r.name, .list [.int r.a, .int r.b, .int r.c], .int r.wall, .int r.weight, .int r.bears, .list (r.marks.map PyData.str)]
theorem RowAt.dp {K : PySem.W.Frag} {H : Hp} {a : Addr} {r : Row} (h : RowAt H a r) : Dp K H (.ref a) (rowD r) := by
  obtain ⟨s, l, h1, h2, h3⟩ := h
  exact .lst (SqL.of h1) (.cons (.str _) (.cons (.lst (SqL.of h2) (.cons (.int _) (.cons (.int _) (.cons (.int _) .nil)))) (.cons (.int _) (.cons (.int _) (.cons (.int _) (.cons (dp_strs h3) .nil))))))
theorem dp_rowsA {K : PySem.W.Frag} {H : Hp} : ∀ {as : List Addr} {rs : List Row}, Paired (RowAt H) as rs → DpAll K H (as.map V.ref) (rs.map rowD)
  | _, _, .nil => .nil
  | _, _, .cons r t => .cons r.dp (dp_rowsA t)
theorem dp_rows {K : PySem.W.Frag} {H : Hp} {L : Addr} {as : List Addr} {rs : List Row} (h : H L = some (.lst (as.map V.ref))) (p : Paired (RowAt H) as rs) : Dp K H (.ref L) (.list (rs.map rowD)) := .lst (SqL.of h) (dp_rowsA p)
theorem sh_rows {rs : List Row} (h : ∀ r ∈ rs, RowOk r) : SeqAt.shaped (.list (rs.map rowD)) = true := by
  have hm : ∀ r ∈ rs, ∀ x ∈ r.marks, SOk x := fun r hr x hx => by
    have h1 := marks_known (h r hr).ms x hx
    have h2 : ∀ y ∈ allMarks, y.cps.all (· < 0x110000) = true := by decide +kernel
    unfold SOk
    simp only [PyData.canLay0]
    exact h2 x h1
  have a : PyData.canLay0 (.list (rs.map rowD)) = true := by
    unfold PyData.canLay0
    refine can_all fun r hr => ?_
    have n1 : PyData.canLay0 (.str r.name) = true := name_sok (h r hr).nm
    have n2 : PyData.canLayAll0 (r.marks.map PyData.str) = true := can_all (hm r hr)
    unfold rowD
    simp only [PyData.canLay0, PyData.canLayAll0] at n1 n2 ⊢
    rw [n1, n2]
    rfl
  have b : PyData.depth (.list (rs.map rowD)) ≤ 64 := by
    have := depthAll_map rowD 3 rs fun r _ => by
      have := depthAll_map PyData.str 0 r.marks fun x _ => by simp only [PyData.depth]; omega
      unfold rowD
      simp only [PyData.depth, PyData.depthAll]
      omega
    simp only [PyData.depth]
    omega
  unfold SeqAt.shaped
  rw [a, decide_eq_true b]
  rfl
section
variable {P : Program} {w : World} {K : PySem.W.Frag} {mg : Str → Option Value} {base : Heap}
/-- what is read of the rows that were made: their sides -/
theorem sub_filter {α : Type} [DecidableEq α] {l L : List α} (h : l.Sublist L) (hn : L.Nodup) : L.filter (fun x => decide (x ∈ l)) = l := by
  induction h with
  | slnil => rfl
  | @cons l L a h ih =>
    rw [List.nodup_cons] at hn
    rw [List.filter_cons, decide_eq_false (fun z => hn.1 (h.subset z)), ih hn.2]
    rfl
  | @cons_cons l L a h ih =>
    rw [List.nodup_cons] at hn
    rw [List.filter_cons, decide_eq_true List.mem_cons_self, if_pos rfl]
    refine congrArg _ (Eq.trans (List.filter_congr fun x hx => ?_) (ih hn.2))
    rw [decide_eq_decide, List.mem_cons]
    exact ⟨fun z => z.resolve_left fun e => hn.1 (e ▸ hx), .inr⟩
/-- one of four numbers -/
theorem four_at {x y z t i : Int} (h0 : 0 ≤ i) (h1 : i < 4) : ∃ v, atI ([x, y, z, t].map V.int) i = some (.int v) ∧ (v = x ∨ v = y ∨ v = z ∨ v = t) := by
  obtain ⟨v, e, m⟩ := atI_in (xs := [x, y, z, t].map V.int) h0 (by simpa using h1)
  obtain ⟨u, hu, rfl⟩ := List.mem_map.mp m
  exact ⟨u, e, by simpa using hu⟩
def spLRow : Sp := SpG (G := Addr × Str × Addr × List Addr × List Row × Int × Bool × Nat) (fun (p, x, m, _, _, sp, deep, _) => [.ref p, .str x, .ref m, .int sp, .bl deep])
  (fun (p, x, m, as, rs, sp, deep, c) H => PurseAt H p c ∧ c ≤ 800000 ∧ NameOk x ∧ m ≠ p ∧ H m = some (.lst (as.map V.ref)) ∧ Paired (RowAt (del [p] H)) as rs ∧ (∀ r ∈ rs, RowOk r) ∧ rs.length ≤ 12 ∧ 0 ≤ sp ∧ sp ≤ 1000)
  (fun (p, x, _, _, _, _, _, _) H v H' => Spent p 40 H H' ∧ ∃ (a : Addr) (r : Row), v = .ref a ∧ RowAt (dif H H') a r ∧ RowOk r ∧ r.name = x)
abbrev N_law_row : List PySem.Str := ["_law_purse_here", "_law_name", "_law_made_here", "_law_spare_here", "_law_deep", "_law_shut", "_law_base", "_law_sides_here", "_law_weight", "_law_bears", "_law_labels", "_law_word"]
theorem sc_law_row : FnScope N_law_row ["_law_purse_here", "_law_name", "_law_made_here", "_law_spare_here", "_law_deep"] d_law_row.scope := ⟨rfl, rfl, rfl, by decide +kernel, rfl, by decide +kernel, by decide +kernel⟩
theorem c_law_row (T : TX K mg) : Cal P w K mg base 3 "_law_row" spLRow [] := by
  refine calD T T.f_law_row rfl T.g_law_row (bindsN rfl fun _ _ _ _ _ _ us hl => match us, hl with | [_, _, _, _, _], _ => rfl) sc_law_row (fun _ => rfl) fun cdv A outer s0 H Q E f g hr hp k => ?_
  obtain ⟨p, x, m, as, rs, sp, deep, c⟩ := g
  obtain ⟨hp, hc, hx, hmp, hm, hps, hok, h12, hsp0, hsp1⟩ := hp
  have hmn : m ∉ [p] := fun z => hmp (List.mem_singleton.mp z)
  refine ⟨_, (pss_cons (ps_set (i := 5) sc_law_row.nd rfl (Or.inl rfl) (pe_ix (ix_listK K rfl) (pe_lst (pa_cons pe_int (pa_cons pe_int (pa_cons pe_int (pa_cons (pe_op op_add pe_int (pe_c (c_law_take T) hr (by decide) rfl (pa_cons (pv 0) (pa_cons pe_int pa_nil)))) pa_nil))))) (pe_c (c_law_take T) hr (by decide) rfl (pa_cons (pv 0) (pa_cons pe_int pa_nil))) (fun _ _ => rfl)))
    (pss_cons (ps_set (i := 6) sc_law_row.nd rfl (Or.inl rfl) (pe_lst pa_nil))
    (C8.pss_cut (ps_if (pt_cmpR (op_neDK K rfl hr.units) (pv 2) (pe_lst pa_nil) (nomark _)) (pss_one (ps_set (i := 6) sc_law_row.nd rfl (Or.inl rfl) (pe_ix (ix_listK K rfl) (pe_ix (ix_listK K rfl) (pv 2) (pe_ix (ix_listK K rfl) (pe_lst (pa_cons (pe_op op_sub (pe_callB (call_len_seq) rfl T.n_len b_len (pa_cons (pv 2) pa_nil)) pe_int) (pa_cons (pe_c (c_law_take T) hr (by decide) rfl (pa_cons (pv 0) (pa_cons (pe_callB (call_len_seq) rfl T.n_len b_len (pa_cons (pv 2) pa_nil)) pa_nil))) pa_nil))) (pe_callTy (call_int1) rfl T.n_int b_int (pa_cons (pe_and (pe_not (pv 4)) (pe_one (pe_cmpR (op_eq) (pe_c (c_law_take T) hr (by decide) rfl (pa_cons (pv 0) (pa_cons pe_int pa_nil))) pe_int (nomark _)))) pa_nil)) (fun _ _ => rfl)) (fun _ _ => rfl)) pe_int (fun _ _ => rfl)))) pss_nil)
    (pss_cons (ps_set (i := 7) sc_law_row.nd rfl (Or.inl rfl) (pe_c (c_law_sides T) hr (by decide) rfl (pa_cons (pv 0) (pa_cons (pv 6) (pa_cons (pe_op op_add (pv 3) (pe_op op_mulW pe_int (pv 5))) (pa_cons (pv 4) pa_nil))))))
    (pss_cons (ps_set (i := 8) sc_law_row.nd rfl (Or.inl rfl) (pe_ix (ix_listK K rfl) (pe_lst (pa_cons pe_int (pa_cons (pe_op op_add pe_int (pe_c (c_law_take T) hr (by decide) rfl (pa_cons (pv 0) (pa_cons pe_int pa_nil)))) (pa_cons (pe_c (c_law_take T) hr (by decide) rfl (pa_cons (pv 0) (pa_cons pe_int pa_nil))) (pa_cons pe_int pa_nil))))) (pe_c (c_law_take T) hr (by decide) rfl (pa_cons (pv 0) (pa_cons pe_int pa_nil))) (fun _ _ => rfl)))
    (pss_cons (ps_set (i := 9) sc_law_row.nd rfl (Or.inl rfl) (pe_ix (ix_listK K rfl) (pe_lst (pa_cons pe_int (pa_cons (pe_op op_add pe_int (pe_c (c_law_take T) hr (by decide) rfl (pa_cons (pv 0) (pa_cons pe_int pa_nil)))) (pa_cons (pe_c (c_law_take T) hr (by decide) rfl (pa_cons (pv 0) (pa_cons pe_int pa_nil))) (pa_cons pe_int pa_nil))))) (pe_c (c_law_take T) hr (by decide) rfl (pa_cons (pv 0) (pa_cons pe_int pa_nil))) (fun _ _ => rfl)))
    (pss_cons (ps_setLc (i := 10) (own := [("_law_word", 11)]) rfl sc_law_row.nd rfl rfl (sw_true rfl rfl rfl (by decide +kernel)) (pi_listK K rfl (pe_lst (pa_cons pe_str (pa_cons pe_str (pa_cons pe_str pa_nil))))) (blkOk_by (own := [("_law_word", 11)]) (N := N_law_row) (sc := d_law_row.scope) (by decide +kernel)) (fun _ _ _ _ _ => (pg_name (i := 11) sc_law_row.nd rfl (Or.inl rfl))) (fun _ _ _ _ _ => (pts_one (pt_cmpR (op_eq) (pe_c (c_law_take T) hr (by decide) rfl (pa_cons (pv 0) (pa_cons pe_int pa_nil))) pe_int (nomark _)))) (fun _ _ _ _ _ => (pv 11)))
    (pss_one (ps_ret (pe_lst (pa_cons (pv 1) (pa_cons (pv 7) (pa_cons (pv 5) (pa_cons (pv 8) (pa_cons (pv 9) (pa_cons (pv 10) pa_nil)))))))))))))))), ?_⟩
  refine ⟨_, rfl, (p, 1000, c), rfl, ⟨hp, by omega, by decide, by decide⟩, fun v H1 hv => ?_⟩
  obtain ⟨s1, z1, rfl, l1, u1⟩ := hv
  have p1 := s1.pu _ hp
  refine ⟨_, _, rfl, rfl, small 4 (by decide), fun q hq => ?_⟩
  have e2 := same_new hq (.lst (([1, 1, 2, 1 + z1] : List Int).map V.int))
  have i2 : upd H1 q (.lst (([1, 1, 2, 1 + z1] : List Int).map V.int)) q = _ := upd_same
  refine ⟨_, rfl, (p, 4, _), rfl, ⟨p1.same e2, by omega, by decide, by decide⟩, fun v H3 hv => ?_⟩
  obtain ⟨s3, z3, rfl, l3, u3⟩ := hv
  obtain ⟨v, hv1, hv2⟩ := atI_in (xs := ([1, 1, 2, 1 + z1] : List Int).map V.int) l3 (by simpa using u3)
  obtain ⟨shut, hu, rfl⟩ := List.mem_map.mp hv2
  have hshut : 1 ≤ shut ∧ shut ≤ 1000 := by
    simp only [List.mem_cons, List.not_mem_nil, or_false] at hu
    omega
  have s03 : Spent p 2 H H3 := (s1.trans (Spent.of e2)).trans s3
  refine ⟨q, _, _, _, rfl, rfl, SqL.of (s3.chg _ _ (apart p1 hq) i2), hv1, ?_⟩
  refine ⟨small 0 (by decide), fun b0 hb0 => ?_⟩
  have e4 := same_new hb0 (.lst [])
  have i4 : upd H3 b0 (.lst []) b0 = some (.lst (([] : List Int).map V.int)) := upd_same
  have s04 : Spent p 2 H (upd H3 b0 (.lst [])) := s03.trans (Spent.of e4)
  have nb0 : b0 ≠ p := fun z => apart (s03.pu _ hp) hb0 (List.mem_singleton.mpr z)
  generalize hσ0 : ((L2.start N_law_row [V.ref p, .str x, .ref m, .int sp, .bl deep]).set 5 (some (.int shut))).set 6 (some (.ref b0)) = σ0
  -- the base
  refine ⟨fun σ' H' => Sl [6] σ0 σ' ∧ Spent p 4 H H' ∧ ∃ (b : Addr) (bs : List Int), σ'[6]? = some (some (.ref b)) ∧ b ≠ p ∧ H' b = some (.lst (bs.map V.int)) ∧ (bs = [] ∨ ∃ x y z, bs = [x, y, z]), ?_, ?_⟩
  · subst hσ0
    have hps4 : Paired (RowAt (upd H3 b0 (.lst []))) as rs := Paired.mapP hps fun a r q => (q.same (del_chg s04.chg (fun _ h => h))).same del_same
    have hm4 := s04.chg _ _ hmn hm
    have hasl : as.length = rs.length := Paired.length hps
    generalize upd H3 b0 (.lst []) = H4 at i4 s04 hps4 hm4
    have p4 := s04.pu _ hp
    refine ⟨_, rfl, small 0 (by decide), fun q1 hq1 => ?_⟩
    have e5 := same_new hq1 (.lst [])
    have i5 : upd H4 q1 (.lst []) q1 = some (.lst (([] : List Int).map V.int)) := upd_same
    have hps5 : Paired (RowAt (upd H4 q1 (.lst []))) as rs := Paired.mapP hps4 fun a r q => q.same e5
    refine ⟨_, _, dp_rows (e5 _ _ hm4) hps5, dp_ints i5, sh_rows hok, sh_ints, _, rfl, ?_⟩
    show if (!PyData.eqv (.list (rs.map rowD)) (.list [])) = true then _ else _
    rw [eqv_nil]
    have s05 := s04.trans (Spent.of e5)
    have hm5 := e5 _ _ hm4
    have hb5 := e5 _ _ i4
    generalize upd H4 q1 (.lst []) = H5 at s05 hm5 hb5 hps5
    cases hrs : rs with
    | nil => exact iteF ⟨Sl.refl, s05.mono (by decide), b0, [], rfl, nb0, hb5, .inl rfl⟩
    | cons r0 rs0 =>
      have hlen1 : 1 ≤ rs.length := by
        rw [hrs]
        exact Nat.succ_le_succ (Nat.zero_le _)
      refine iteT ?_
      have p5 := s05.pu _ hp
      have ml : (as.map V.ref).length = rs.length := by rw [List.length_map, hasl]
      refine ⟨_, rfl, _, rfl, m, _, rfl, .inl (SqL.of hm5), _, _, rfl, rfl, _, rfl, _, rfl, m, _, rfl, .inl (SqL.of hm5), (p, ((as.map V.ref).length : Int), _), rfl, ⟨p5, by omega, by omega, by omega⟩, fun v H6 hv => ?_⟩
      obtain ⟨s6, z6, rfl, l6, u6⟩ := hv
      have p6 := s6.pu _ p5
      refine ⟨small 2 (by decide), fun q2 hq2 => ?_⟩
      have e7 := same_new hq2 (.lst (([((as.map V.ref).length : Int) - 1, z6] : List Int).map V.int))
      have i7 : upd H6 q2 (.lst (([((as.map V.ref).length : Int) - 1, z6] : List Int).map V.int)) q2 = _ := upd_same
      have s07 : Spent p 3 H (upd H6 q2 (.lst (([((as.map V.ref).length : Int) - 1, z6] : List Int).map V.int))) := (s05.trans s6).trans (Spent.of e7)
      have nq2 := apart p6 hq2
      -- once the choice is known
      have fin : ∀ (H8 : Hp) (j : Int), Spent p 1 (upd H6 q2 (.lst (([((as.map V.ref).length : Int) - 1, z6] : List Int).map V.int))) H8 → (j = 0 ∨ j = 1) →
          ∃ pl xs i v, V.ref q2 = .ref pl ∧ V.int j = .int i ∧ SqL K H8 pl xs ∧ atI xs i = some v ∧ ∃ pl2 xs2 i2 v2, V.ref m = .ref pl2 ∧ v = .int i2 ∧ SqL K H8 pl2 xs2 ∧ atI xs2 i2 = some v2 ∧ ∃ pl3 xs3 i3 v3, v2 = .ref pl3 ∧ V.int 1 = .int i3 ∧ SqL K H8 pl3 xs3 ∧ atI xs3 i3 = some v3 ∧
            (fun σ' H' => Sl [6] (((L2.start N_law_row [V.ref p, .str x, .ref m, .int sp, .bl deep]).set 5 (some (.int shut))).set 6 (some (.ref b0))) σ' ∧ Spent p 4 H H' ∧ ∃ (b : Addr) (bs : List Int), σ'[6]? = some (some (.ref b)) ∧ b ≠ p ∧ H' b = some (.lst (bs.map V.int)) ∧ (bs = [] ∨ ∃ x y z, bs = [x, y, z]))
              ((((L2.start N_law_row [V.ref p, .str x, .ref m, .int sp, .bl deep]).set 5 (some (.int shut))).set 6 (some (.ref b0))).set 6 (some v3)) H8 := by
        intro H8 j s8 hj
        have s08 := s07.trans s8
        have hq8 := s8.chg _ _ nq2 i7
        have hm8 : H8 m = some (.lst (as.map V.ref)) := s08.chg _ _ hmn hm
        have hi : ∃ i : Nat, i < rs.length ∧ atI (([((as.map V.ref).length : Int) - 1, z6] : List Int).map V.int) j = some (.int (i : Nat)) := by
          rcases hj with rfl | rfl
          · exact ⟨rs.length - 1, by omega, by show some (V.int _) = _; rw [ml]; congr 2; omega⟩
          · exact ⟨z6.toNat, by omega, by show some (V.int _) = _; congr 2; omega⟩
        obtain ⟨i, hi1, hi2⟩ := hi
        obtain ⟨a, ha, q⟩ := paired_at hps (List.getElem?_eq_getElem hi1)
        obtain ⟨sd, lb, g1, g2, g3⟩ := q
        obtain ⟨n1, g1⟩ := del_to g1
        obtain ⟨n2, g2⟩ := del_to g2
        refine ⟨q2, _, j, _, rfl, rfl, SqL.of hq8, hi2, m, _, _, .ref a, rfl, rfl, SqL.of hm8, atI_nat (by rw [List.getElem?_map, ha]; rfl), a, _, 1, _, rfl, rfl, SqL.of (s08.chg _ _ n1 g1), rfl, Sl.refl.set (by decide), s08, sd, [rs[i].a, rs[i].b, rs[i].c], rfl, fun z => n2 (List.mem_singleton.mpr z), s08.chg _ _ n2 g2, .inr ⟨_, _, _, rfl⟩⟩
      refine ⟨_, rfl, deep, rfl, _, rfl, ?_⟩
      cases deep with
      | true => exact iteF (.inr ⟨_, rfl, fin _ _ (Spent.refl.mono (by decide)) (.inl rfl)⟩)
      | false =>
        refine iteT ⟨_, rfl, (p, 2, _), rfl, ⟨s07.pu _ hp, by omega, by decide, by decide⟩, fun v H8 hv => ?_⟩
        obtain ⟨s8, z8, rfl, l8, u8⟩ := hv
        refine ⟨rfl, .inr ⟨_, rfl, fin _ _ s8 ?_⟩⟩
        split
        · exact .inr rfl
        · exact .inl rfl
  rintro σ5 H5 ⟨hσ5, s5, b, bs, h56, hbp, hb, hbs⟩
  have p5 := s5.pu _ hp
  subst hσ0
  refine ⟨_, hσ5.g 0 (by decide) rfl, _, h56, _, hσ5.g 3 (by decide) rfl, _, hσ5.g 5 (by decide) rfl, _, _, rfl, rfl, mulS (by decide) (by omega), _, _, rfl, rfl, _, hσ5.g 4 (by decide) rfl, (p, b, sp + 2 * shut, deep, bs, _), rfl, ⟨p5, by omega, hbp, hb, hbs⟩, fun v H6 hv => ?_⟩
  obtain ⟨s6, l, sa, sb, sc, rfl, hl0, hl, oka, okb, okc⟩ := hv
  have s06 := s5.trans s6
  have p6 := s06.pu _ hp
  have l0 : H l = none := s5.dom hp l hl0
  have nl := apart hp l0
  -- weight
  refine ⟨_, (hσ5.both 7 (some (.ref l))).g 0 (by decide) rfl, (p, 9, _), rfl, ⟨p6, by omega, by decide, by decide⟩, fun v H7 hv => ?_⟩
  obtain ⟨s7, z7, rfl, l7, u7⟩ := hv
  have p7 := s7.pu _ p6
  refine ⟨_, _, rfl, rfl, _, (hσ5.both 7 (some (.ref l))).g 0 (by decide) rfl, (p, 100001, _), rfl, ⟨p7, by omega, by decide, by decide⟩, fun v H8 hv => ?_⟩
  obtain ⟨s8, z8, rfl, l8, u8⟩ := hv
  have p8 := s8.pu _ p7
  refine ⟨small 4 (by decide), fun q1 hq1 => ?_⟩
  have e9 := same_new hq1 (.lst (([0, 1 + z7, z8, 100000] : List Int).map V.int))
  have i9 : upd H8 q1 (.lst (([0, 1 + z7, z8, 100000] : List Int).map V.int)) q1 = _ := upd_same
  refine ⟨_, (hσ5.both 7 (some (.ref l))).g 0 (by decide) rfl, (p, 4, _), rfl, ⟨p8.same e9, by omega, by decide, by decide⟩, fun v H10 hv => ?_⟩
  obtain ⟨s10, z10, rfl, l10, u10⟩ := hv
  obtain ⟨wt, hw1, hw2⟩ := four_at (x := 0) (y := 1 + z7) (z := z8) (t := 100000) l10 u10
  have s010 : Spent p 27 H H10 := (((s06.trans s7).trans s8).trans (Spent.of e9)).trans s10
  refine ⟨q1, _, _, _, rfl, rfl, SqL.of (s10.chg _ _ (apart p8 hq1) i9), hw1, ?_⟩
  have p10 := s010.pu _ hp
  have hσ8 := (hσ5.both 7 (some (.ref l))).both 8 (some (.int wt))
  -- bears
  refine ⟨_, hσ8.g 0 (by decide) rfl, (p, 20, _), rfl, ⟨p10, by omega, by decide, by decide⟩, fun v H11 hv => ?_⟩
  obtain ⟨s11, z11, rfl, l11, u11⟩ := hv
  have p11 := s11.pu _ p10
  refine ⟨_, _, rfl, rfl, _, hσ8.g 0 (by decide) rfl, (p, 100001, _), rfl, ⟨p11, by omega, by decide, by decide⟩, fun v H12 hv => ?_⟩
  obtain ⟨s12, z12, rfl, l12, u12⟩ := hv
  have p12 := s12.pu _ p11
  refine ⟨small 4 (by decide), fun q2 hq2 => ?_⟩
  have e13 := same_new hq2 (.lst (([0, 1 + z11, z12, 100000] : List Int).map V.int))
  have i13 : upd H12 q2 (.lst (([0, 1 + z11, z12, 100000] : List Int).map V.int)) q2 = _ := upd_same
  refine ⟨_, hσ8.g 0 (by decide) rfl, (p, 4, _), rfl, ⟨p12.same e13, by omega, by decide, by decide⟩, fun v H14 hv => ?_⟩
  obtain ⟨s14, z14, rfl, l14, u14⟩ := hv
  obtain ⟨br, hb1, hb2⟩ := four_at (x := 0) (y := 1 + z11) (z := z12) (t := 100000) l14 u14
  have s014 : Spent p 30 H H14 := (((s010.trans s11).trans s12).trans (Spent.of e13)).trans s14
  refine ⟨q2, _, _, _, rfl, rfl, SqL.of (s14.chg _ _ (apart p12 hq2) i13), hb1, ?_⟩
  have hσ9 := hσ8.both 9 (some (.int br))
  -- labels
  refine ⟨small 3 (by decide), fun q3 hq3 => ?_⟩
  have e15 := same_new hq3 (.lst (allMarks.map V.str))
  have i15 : upd H14 q3 (.lst (allMarks.map V.str)) q3 = _ := upd_same
  have s015 : Spent p 30 H (upd H14 q3 (.lst (allMarks.map V.str))) := s014.trans (Spent.of e15)
  refine ⟨q3, rfl, ⟨_, SqL.of i15⟩, fun D hD => ?_⟩
  have p15 := s015.pu _ hp
  have nq3 := apart (s014.pu _ hp) hq3
  have npD := apart p15 hD
  have nDp : D ≠ p := fun z => npD (List.mem_singleton.mpr z)
  refine lc_it (wl (K := K) (a := q3) allMarks V.str) (fun i H' => Spent p i (upd H14 q3 (.lst (allMarks.map V.str))) H' ∧ ∃ l : List Str, H' D = some (.lst (l.map V.str)) ∧ l.Sublist (allMarks.take i)) ⟨(Spent.of (same_new hD _)).mono (by omega), [], upd_same, List.nil_sublist _⟩ (fun i H' _ h => SqL.of (h.1.chg _ _ nq3 i15)) ?_ ?_
  · rintro i v H16 H17 hi ⟨hs, ml, hml, hsub⟩ ⟨hH, z, hz, rfl⟩
    subst hH
    have hi3 : i < 3 := hi
    have p17 := hs.pu _ p15
    have hSw : Sl [6, 11] _ ((wipe (((σ5.set 7 (some (.ref l))).set 8 (some (.int wt))).set 9 (some (.int br))) [11]).set 11 (some (.str z))) :=
      Sl.w1 (js := [6, 11]) ⟨hσ9.len, fun j hj => hσ9.at' j fun q => hj (by rw [List.mem_singleton.mp q]; simp)⟩ (by decide)
    have hml3 : ml.length ≤ 3 := by
      have := hsub.length_le
      rw [List.length_take] at this
      omega
    refine ⟨wipe1, _, hSw.g 0 (by decide) rfl, (p, 7, _), rfl, ⟨p17, by omega, by decide, by decide⟩, fun v H18 hv => ?_⟩
    obtain ⟨s18, z18, rfl, l18, u18⟩ := hv
    have hml18 := s18.chg _ _ npD hml
    refine ⟨rfl, _, rfl, ?_⟩
    refine ite2 (fun _ => ?_) (fun _ => ?_)
    · refine ⟨_, hσ9.s1, ml.map V.str, hml18, ?_, (hs.trans s18).at' hD nDp, ml ++ [z], ?_, ?_⟩
      · rw [List.length_map]
        exact smallt _ (by omega)
      · rw [upd_same, List.map_append]
        rfl
      · rw [take_snoc hz]
        exact hsub.append (List.Sublist.refl _)
    · refine ⟨hs.trans s18, ml, hml18, ?_⟩
      rw [take_snoc hz]
      exact hsub.trans (List.sublist_append_left _ _)
  rintro H16 ⟨hs, ml, hml, hsub⟩
  have hsub : ml.Sublist allMarks := hsub
  have s016 : Spent p 33 H H16 := s015.trans hs
  have hσ10 := hσ9.both 10 (some (.ref D))
  refine ⟨_, hσ10.g 1 (by decide) rfl, _, hσ10.g 7 (by decide) rfl, _, hσ10.g 5 (by decide) rfl, _, hσ10.g 8 (by decide) rfl, _, hσ10.g 9 (by decide) rfl, _, hσ10.g 10 (by decide) rfl, small 6 (by decide), fun a ha => ?_⟩
  have hl16 : H16 l = some (.lst [.int sa, .int sb, .int sc]) := (((((((s7.trans s8).trans (Spent.of e9)).trans s10).trans s11).trans s12).trans (Spent.of e13)).trans s14 |>.trans (Spent.of e15) |>.trans hs).chg _ _ nl hl
  have et := same_new ha (.lst [.str x, .ref l, .int shut, .int wt, .int br, .ref D])
  have a0 : H a = none := s016.dom hp a ha
  have D0 : H D = none := s015.dom hp D hD
  refine k _ _ ⟨(s016.trans (Spent.of et)).mono (by decide), a, ⟨x, sa, sb, sc, shut, wt, br, ml⟩, rfl, ⟨l, D, dif_of a0 upd_same, dif_of l0 (et _ _ hl16), dif_of D0 (et _ _ hml)⟩, ⟨hx, oka, okb, okc, hshut, ?_, ?_, sub_filter hsub (by decide +kernel), hsub.nodup (by decide +kernel)⟩, rfl⟩
  · show 0 ≤ wt ∧ wt ≤ 100000
    omega
  · show 0 ≤ br ∧ br ≤ 100000
    omega
end
end BX
end
section
set_option Elab.async false
set_option linter.all false
set_option maxRecDepth 100000
set_option maxHeartbeats 4000000
namespace BX
open PySem PySem.Spec PyProof.Rows L2
open C8 (Cal Mak Met pe_c pe_mk pe_mt pe_mt0 pe_gc)
section
variable {P : Program} {w : World} {K : PySem.W.Frag} {mg : Str → Option Value} {base : Heap}
/-- a list of rows' lists -/
structure RowsAt (H : Hp) (l : Addr) (as : List Addr) (rs : List Row) : Prop where
  ls : H l = some (.lst (as.map V.ref))
  ps : Paired (RowAt H) as rs
theorem RowsAt.same {H H' : Hp} {l : Addr} {as : List Addr} {rs : List Row} (e : Same H H') (h : RowsAt H l as rs) : RowsAt H' l as rs := ⟨e _ _ h.ls, Paired.mapP h.ps fun a r q => q.same e⟩
theorem RowsAt.len {H : Hp} {l : Addr} {as : List Addr} {rs : List Row} (h : RowsAt H l as rs) : as.length = rs.length := Paired.length h.ps
theorem paired_memL' {α β : Type} {F : α → β → Prop} : ∀ {l : List α} {m : List β}, Paired F l m → ∀ {a : α}, a ∈ l → ∃ b, F a b := fun h _ m => paired_memL h m
theorem paired_ins {α β : Type} {F : α → β → Prop} {l : List α} {m : List β} {a : α} {b : β} (h : Paired F l m) (r : F a b) (i : Nat) : Paired F (l.take i ++ [a] ++ l.drop i) (m.take i ++ [b] ++ m.drop i) := by
  induction h generalizing i with
  | nil =>
    rw [List.take_nil, List.take_nil, List.drop_nil, List.drop_nil]
    exact .cons r .nil
  | cons q t ih =>
    cases i with
    | zero => exact .cons r (.cons q t)
    | succ i => exact .cons q (ih i)
theorem ins_perm {α : Type} (l : List α) (x : α) (i : Nat) : (l.take i ++ [x] ++ l.drop i).Perm (x :: l) := by
  have h1 : (l.take i ++ [x] ++ l.drop i).Perm (x :: (l.take i ++ l.drop i)) := by
    rw [List.append_assoc]
    exact List.perm_middle
  rwa [List.take_append_drop] at h1
def spRows : Sp := SpG (G := Addr × Int × Nat) (fun (p, sp, _) => [.ref p, .int sp]) (fun (p, sp, c) H => PurseAt H p c ∧ c ≤ 700000 ∧ 0 ≤ sp ∧ sp ≤ 1000)
  (fun (p, sp, c) H v H' => Spent p 600 H H' ∧ ∃ (l : Addr) (as : List Addr) (rs : List Row), v = .ref l ∧ RowsAt (dif H H') l as rs ∧ RowsOk rs ∧ l ∉ as)
abbrev N_law_rows : List PySem.Str := ["_law_purse_here", "_law_spare_here", "_law_size", "_law_deep", "_law_made_here", "_law_found", "_law_name", "_law_row_here"]
theorem sc_law_rows : FnScope N_law_rows ["_law_purse_here", "_law_spare_here"] d_law_rows.scope := ⟨rfl, rfl, rfl, by decide +kernel, rfl, by decide +kernel, by decide +kernel⟩
theorem c_law_rows (T : TX K mg) : Cal P w K mg base 4 "_law_rows" spRows [] := by
  refine calD T T.f_law_rows rfl T.g_law_rows (bindsN rfl fun _ _ _ _ _ _ us hl => match us, hl with | [_, _], _ => rfl) sc_law_rows (fun _ => rfl) fun cdv A outer s0 H Q E f g hr hp k => ?_
  obtain ⟨p, sp, c⟩ := g
  obtain ⟨hp, hc, hsp0, hsp1⟩ := hp
  refine ⟨_, (pss_cons (ps_set (i := 2) sc_law_rows.nd rfl (Or.inl rfl) (pe_ix (ix_listK K rfl) (pe_lst (pa_cons (pe_c (c_law_take T) hr (by decide) rfl (pa_cons (pv 0) (pa_cons pe_int pa_nil))) (pa_cons pe_int (pa_cons (pe_c (c_law_take T) hr (by decide) rfl (pa_cons (pv 0) (pa_cons pe_int pa_nil))) (pa_cons (pe_op op_add pe_int (pe_c (c_law_take T) hr (by decide) rfl (pa_cons (pv 0) (pa_cons pe_int pa_nil)))) pa_nil))))) (pe_c (c_law_take T) hr (by decide) rfl (pa_cons (pv 0) (pa_cons pe_int pa_nil))) (fun _ _ => rfl)))
    (pss_cons (ps_set (i := 3) sc_law_rows.nd rfl (Or.inl rfl) (pe_cmpR (op_eq) (pe_c (c_law_take T) hr (by decide) rfl (pa_cons (pv 0) (pa_cons pe_int pa_nil))) pe_int (nomark _)))
    (pss_cons (ps_par (i := 4) (j := 5) (by rfl) sc_law_rows.nd rfl rfl (by decide) rfl rfl (pa_cons (pe_lst pa_nil) (pa_cons (pe_lst pa_nil) pa_nil)) (by rfl))
    (pss_cons (ps_for PassesOwn.never rfl (pi_listK K rfl (pe_c (c_law_names T) hr (by decide) rfl (pa_cons (pv 0) (pa_cons (pv 2) pa_nil)))) (pg_name (i := 6) sc_law_rows.nd rfl (Or.inl rfl)) (pss_cons (ps_set (i := 7) sc_law_rows.nd rfl (Or.inl rfl) (pe_c (c_law_row T) hr (by decide) rfl (pa_cons (pv 0) (pa_cons (pv 6) (pa_cons (pv 4) (pa_cons (pv 1) (pa_cons (pv 3) pa_nil)))))))
      (pss_cons (ps_expr (pe_bm PySem.F.plainAttrs_list PySem.F.slot_list_append PySem.F.type_list_append mt_append (pv 4) (pa_cons (pv 7) pa_nil)))
      (pss_one (ps_expr (pe_bm PySem.F.plainAttrs_list PySem.F.slot_list_insert PySem.F.type_list_insert mt_insert (pv 5) (pa_cons (pe_c (c_law_take T) hr (by decide) rfl (pa_cons (pv 0) (pa_cons (pe_op op_add (pe_callB (call_len_seq) rfl T.n_len b_len (pa_cons (pv 5) pa_nil)) pe_int) pa_nil))) (pa_cons (pv 7) pa_nil))))))))
    (pss_one (ps_ret (pv 5))))))), ?_⟩
  refine ⟨_, rfl, (p, 13, c), rfl, ⟨hp, by omega, by decide, by decide⟩, fun v H1 hv => ?_⟩
  obtain ⟨s1, z1, rfl, l1, u1⟩ := hv
  have p1 := s1.pu _ hp
  refine ⟨_, rfl, (p, 3, _), rfl, ⟨p1, by omega, by decide, by decide⟩, fun v H2 hv => ?_⟩
  obtain ⟨s2, z2, rfl, l2, u2⟩ := hv
  have p2 := s2.pu _ p1
  refine ⟨_, rfl, (p, 9, _), rfl, ⟨p2, by omega, by decide, by decide⟩, fun v H3 hv => ?_⟩
  obtain ⟨s3, z3, rfl, l3, u3⟩ := hv
  have p3 := s3.pu _ p2
  refine ⟨_, _, rfl, rfl, small 4 (by decide), fun q1 hq1 => ?_⟩
  have e4 := same_new hq1 (.lst (([z1, 12, z2, 4 + z3] : List Int).map V.int))
  have i4 : upd H3 q1 (.lst (([z1, 12, z2, 4 + z3] : List Int).map V.int)) q1 = _ := upd_same
  refine ⟨_, rfl, (p, 4, _), rfl, ⟨p3.same e4, by omega, by decide, by decide⟩, fun v H5 hv => ?_⟩
  obtain ⟨s5, z5, rfl, l5, u5⟩ := hv
  obtain ⟨sz, hs1, hs2⟩ := four_at (x := z1) (y := 12) (z := z2) (t := 4 + z3) l5 u5
  refine ⟨q1, _, _, _, rfl, rfl, SqL.of (s5.chg _ _ (apart p3 hq1) i4), hs1, ?_⟩
  have s05 : Spent p 4 H H5 := (((s1.trans s2).trans s3).trans (Spent.of e4)).trans s5
  have p5 := s05.pu _ hp
  obtain ⟨n, rfl⟩ : ∃ n : Nat, sz = (n : Nat) := ⟨sz.toNat, (Int.toNat_of_nonneg (by omega)).symm⟩
  have hn : n ≤ 12 := by omega
  refine ⟨_, rfl, (p, 4, _), rfl, ⟨p5, by omega, by decide, by decide⟩, fun v H6 hv => ?_⟩
  obtain ⟨s6, z6, rfl, l6, u6⟩ := hv
  have s06 := s05.trans s6
  refine ⟨rfl, small 0 (by decide), fun M hM => ?_⟩
  have e7 := same_new hM (.lst [])
  refine ⟨small 0 (by decide), fun F hF => ?_⟩
  have e8 := same_new hF (.lst [])
  have hM8 : upd (upd H6 M (.lst [])) F (.lst []) M = some (.lst []) := e8 _ _ upd_same
  have hF8 : upd (upd H6 M (.lst [])) F (.lst []) F = some (.lst []) := upd_same
  have s08 : Spent p 5 H (upd (upd H6 M (.lst [])) F (.lst [])) := (s06.trans (Spent.of e7)).trans (Spent.of e8)
  have hMF : M ≠ F := fun z => by
    rw [← z, upd_same] at hF
    cases hF
  have M0 : H M = none := s06.dom hp M hM
  have F0 : H F = none := s06.dom hp F (Dom.of e7 F hF)
  have nM := apart hp M0
  have nF := apart hp F0
  have nMp : M ≠ p := fun z => nM (List.mem_singleton.mpr z)
  have nFp : F ≠ p := fun z => nF (List.mem_singleton.mpr z)
  have p8 := s08.pu _ hp
  let σ0 : L2.St := ((((L2.start N_law_rows [V.ref p, .int sp]).set 2 (some (.int (n : Nat)))).set 3 (some (.bl (decide (V.int z6 = V.int 0))))).set 4 (some (.ref M))).set 5 (some (.ref F))
  refine ⟨_, _, rfl, ?_⟩
  refine ⟨_, rfl, _, rfl, (p, n, _), rfl, ⟨p8, by omega, hn⟩, fun v H9 hv => ?_⟩
  obtain ⟨s9, nl, xs, rfl, hnl0, hnl, hxl, hxn, hxo⟩ := hv
  generalize upd (upd H6 M (.lst [])) F (.lst []) = H8 at hM8 hF8 s08 p8 s9 hnl0
  have s09 := s08.trans s9
  have p9 := s09.pu _ hp
  have hM9 := s9.chg _ _ nM hM8
  have hF9 := s9.chg _ _ nF hF8
  have nlM : nl ≠ M := fun z => by rw [z, hM8] at hnl0; cases hnl0
  have nlF : nl ≠ F := fun z => by rw [z, hF8] at hnl0; cases hnl0
  have nlp : nl ≠ p := fun z => by
    rw [z] at hnl0
    exact p8.there hnl0
  refine ⟨nl, rfl, ⟨_, SqL.of hnl⟩, ?_⟩
  refine for_it (wl (K := K) (a := nl) xs V.str) (fun i σ H' => Spent p (25 + i * 41) H H' ∧ Dom H9 H' ∧ Chg [p, M, F] H9 H' ∧ Sl [6, 7] σ0 σ ∧ ∃ as1 rs1 as2 rs2, H' M = some (.lst (as1.map V.ref)) ∧ Paired (RowAt (dif H9 H')) as1 rs1 ∧ rs1.map Row.name = xs.take i ∧ H' F = some (.lst (as2.map V.ref)) ∧ Paired (RowAt (dif H9 H')) as2 rs2 ∧ rs2.Perm rs1 ∧ ∀ r ∈ rs1, RowOk r)
    ⟨s09, Dom.refl, Chg.refl, Sl.refl, [], [], [], [], hM9, .nil, rfl, hF9, .nil, .refl _, fun _ h => by cases h⟩ (fun i σ H' _ h => SqL.of (h.2.2.1 _ _ (not3 nlp nlM nlF) hnl)) ?_ ?_
  · rintro i v σ H10 H11 hi ⟨hs, hd, hc10, hσ, as1, rs1, as2, rs2, hM1, hP1, hn1, hF2, hP2, hpm, hok⟩ ⟨hH, x, hx, rfl⟩
    subst hH
    have hσ2 : Sl [6, 7] σ0 (σ.set 6 (some (.str x))) := hσ.set (by decide)
    have s6' : (σ.set 6 (some (.str x)))[6]? = some (some (.str x)) := hσ.s
    have p11 := hs.pu _ hp
    have hi12 : i < 12 := by omega
    have hr1 : rs1.length = i := by
      have : (rs1.map Row.name).length = (xs.take i).length := by rw [hn1]
      rw [List.length_map, List.length_take] at this
      omega
    have tp9 : ∀ b ∈ [p], H9 b ≠ none := there1 p9
    refine ⟨_, hσ2.g 0 (by decide) rfl, _, s6', _, hσ2.g 4 (by decide) rfl, _, hσ2.g 1 (by decide) rfl, _, hσ2.g 3 (by decide) rfl, (p, x, M, as1, rs1, sp, _, _), rfl, ⟨p11, by omega, hxo x (List.mem_of_getElem? hx), nMp, hM1, Paired.mapP hP1 fun a r q => q.same (dif_del tp9), hok, by omega, hsp0, hsp1⟩, fun v H12 hv => ?_⟩
    obtain ⟨s12, a, r, rfl, hra, hro, hrn⟩ := hv
    have hM12 := s12.chg _ _ nM hM1
    have hF12 := s12.chg _ _ nF hF2
    have d12 := s12.dom p11
    have g12 : Same (dif H9 H11) (dif H9 H12) := dif_mono s12.chg tp9
    have hra12 : RowAt (dif H9 H12) a r := hra.same (dif_left hd)
    have c12 : Chg [p, M, F] H9 H12 := Chg.trans hc10 (s12.chg.mono (by simp))
    have s012 := hs.trans s12
    have hσ3 : Sl [6, 7] σ0 ((σ.set 6 (some (.str x))).set 7 (some (.ref a))) := hσ2.set (by decide)
    have s7' : ((σ.set 6 (some (.str x))).set 7 (some (.ref a)))[7]? = some (some (.ref a)) := hσ2.s
    have as1l : as1.length = i := (Paired.length hP1).trans hr1
    have as2l : as2.length = i := (Paired.length hP2).trans (hpm.length_eq.trans hr1)
    refine ⟨_, hσ3.g 4 (by decide) rfl, .inl ⟨rfl, _, SqL.of hM12⟩, _, s7', M, _, _, rfl, rfl, hM12, ?_, ?_⟩
    · rw [List.length_map]
      exact smallt _ (by omega)
    have g13 : Same (dif H9 H12) (dif H9 (upd H12 M (.lst (as1.map V.ref ++ [.ref a])))) := dif_mono (S := [M]) (Chg.upd Chg.refl (List.mem_singleton_self M)) (fun b hb => by
      rw [List.mem_singleton.mp hb, hM9]
      exact fun z => by cases z)
    have hF13 : upd H12 M (.lst (as1.map V.ref ++ [.ref a])) F = _ := (upd_ne hMF.symm).trans hF12
    have hM13 : upd H12 M (.lst (as1.map V.ref ++ [.ref a])) M = some (.lst ((as1 ++ [a]).map V.ref)) := by
      rw [upd_same, List.map_append]
      rfl
    have s013 : Spent p (25 + i * 41 + 40) H (upd H12 M (.lst (as1.map V.ref ++ [.ref a]))) := s012.at' M0 nMp
    have d13 : Dom H9 (upd H12 M (.lst (as1.map V.ref ++ [.ref a]))) := (hd.trans d12).trans Dom.upd
    have c13 : Chg [p, M, F] H9 (upd H12 M (.lst (as1.map V.ref ++ [.ref a]))) := Chg.upd c12 (by simp)
    generalize upd H12 M (.lst (as1.map V.ref ++ [.ref a])) = H13 at g13 hF13 hM13 s013 d13 c13
    have p13 := s013.pu _ hp
    refine ⟨_, hσ3.g 5 (by decide) rfl, .inl ⟨rfl, _, SqL.of hF13⟩, _, hσ3.g 0 (by decide) rfl, _, hσ3.g 5 (by decide) rfl, F, _, rfl, .inl (SqL.of hF13), _, _, rfl, rfl, (p, ((as2.map V.ref).length : Int) + 1, _), rfl, ⟨p13, by omega, by omega, by rw [List.length_map]; omega⟩, fun v H14 hv => ?_⟩
    obtain ⟨s14, j, rfl, l14, u14⟩ := hv
    rw [List.length_map] at u14
    obtain ⟨j, rfl⟩ : ∃ n : Nat, j = (n : Nat) := ⟨j.toNat, (Int.toNat_of_nonneg l14).symm⟩
    have hF14 := s14.chg _ _ nF hF13
    have hM14 := s14.chg _ _ nM hM13
    have g14 : Same (dif H9 H13) (dif H9 H14) := dif_mono s14.chg tp9
    have g15 : Same (dif H9 H14) (dif H9 (upd H14 F (.lst ((as2.take j ++ [a] ++ as2.drop j).map V.ref)))) := dif_mono (S := [F]) (Chg.upd Chg.refl (List.mem_singleton_self F)) (fun b hb => by
      rw [List.mem_singleton.mp hb, hF9]
      exact fun z => by cases z)
    have g1215 : Same (dif H9 H12) (dif H9 (upd H14 F (.lst ((as2.take j ++ [a] ++ as2.drop j).map V.ref)))) := fun b o e => g15 _ _ (g14 _ _ (g13 _ _ e))
    have g1115 : Same (dif H9 H11) (dif H9 (upd H14 F (.lst ((as2.take j ++ [a] ++ as2.drop j).map V.ref)))) := fun b o e => g1215 _ _ (g12 _ _ e)
    have es : (as2.map V.ref).take ((j : Nat) : Int).toNat ++ [V.ref a] ++ (as2.map V.ref).drop ((j : Nat) : Int).toNat = (as2.take j ++ [a] ++ as2.drop j).map V.ref := by
      rw [Int.toNat_natCast, List.map_append, List.map_append, List.map_take, List.map_drop]
      rfl
    refine ⟨_, s7', F, _, (j : Nat), _, rfl, rfl, hF14, ?_, Int.natCast_nonneg _, by omega, ?_⟩
    · rw [List.length_map]
      exact smallt _ (by omega)
    · rw [es]
      refine ⟨((s013.trans s14).at' F0 nFp).mono (by omega), (d13.trans (s14.dom p13)).trans Dom.upd, Chg.upd (Chg.trans c13 (s14.chg.mono (by simp))) (by simp), hσ3, as1 ++ [a], rs1 ++ [r], _, rs2.take j ++ [r] ++ rs2.drop j, (upd_ne hMF).trans hM14, ?_, ?_, upd_same, ?_, ?_, ?_⟩
      · exact paired_app (Paired.mapP hP1 fun a r q => q.same g1115) (.cons (hra12.same g1215) .nil)
      · rw [List.map_append, hn1, take_snoc hx]
        show _ ++ [r.name] = _
        rw [hrn]
      · exact paired_ins (Paired.mapP hP2 fun a r q => q.same g1115) (hra12.same g1215) j
      · exact (ins_perm rs2 r j).trans ((hpm.cons r).trans (List.perm_append_singleton r rs1).symm)
      · intro r' hr'
        rcases List.mem_append.mp hr' with e | e
        · exact hok r' e
        · rw [List.mem_singleton.mp e]
          exact hro
  · rintro σ H10 ⟨hs, hd, hc10, hσ, as1, rs1, as2, rs2, hM1, hP1, hn1, hF2, hP2, hpm, hok⟩
    rw [List.take_length] at hn1
    have d09 := s09.dom hp
    refine ⟨_, hσ.g 5 (by decide) rfl, k _ _ ⟨hs.mono (by omega), F, as2, rs2, rfl, ⟨dif_of F0 hF2, Paired.mapP hP2 fun a r q => q.same (dif_left d09)⟩, ⟨?_, fun r hr => hok r (hpm.mem_iff.mp hr), ?_⟩, fun hm => ?_⟩⟩
    · rw [(hpm.map Row.name).nodup_iff, hn1]
      exact hxn
    · rw [hpm.length_eq, ← List.length_map (f := Row.name), hn1]
      omega
    · obtain ⟨r, q⟩ := paired_memL' hP2 hm
      obtain ⟨s, l, g1, _⟩ := q
      have := (dif_to g1).1
      rw [hF9] at this
      cases this
end
end BX
end
section
set_option Elab.async false
set_option linter.all false
set_option maxRecDepth 100000
set_option maxHeartbeats 4000000
namespace BX
open PySem PySem.Spec PyProof.Rows L2
open C8 (Cal Mak Met pe_c pe_mk pe_mt pe_mt0 pe_gc)
theorem pe_mk0 {X : Cx} {k j : Nat} {C : Addr} {x : Str} {sp : Sp} {dvs : List V} {p pos : Pos} (c : Mak X.prog X.w X.K X.mg X.base k x C sp dvs) (hr : Room j X.A) (hk : k + 1 ≤ j) (hg : Gl X x)
    (hdb : (x == ("__debug__" : Str)) = false := by decide) : PE X (.Call (.Name x p) [] [] pos) (tMake C sp dvs C8.E0 tNil) := by
  obtain ⟨f, fd, ps, ds, M, F, hm, b, d⟩ := c.ex
  exact pe_make0 M F (hr.mono hk) hg hm b d pass0 hdb
section
variable {P : Program} {w : World} {K : PySem.W.Frag} {mg : Str → Option Value} {base : Heap}
def spMade : Sp := SpG (G := Addr × Row) (fun (a, _) => [.ref a]) (fun (a, r) H => RowAt H a r ∧ RowOk r) (fun (a, r) H v H' => Same H H' ∧ ∃ q, v = .ref q ∧ H q = none ∧ ParcelN K H H' q r)
abbrev N_law_made : List PySem.Str := ["_law_row_here", "_law_sides_here"]
theorem sc_law_made : FnScope N_law_made ["_law_row_here"] d_law_made.scope := ⟨rfl, rfl, rfl, by decide +kernel, rfl, by decide +kernel, by decide +kernel⟩
theorem c_law_made (T : TX K mg) : Cal P w K mg base 4 "_law_made" (spMade (K := K)) [] := by
  refine calD T T.f_law_made rfl T.g_law_made (bindsN rfl fun _ _ _ _ _ _ us hl => match us, hl with | [_], _ => rfl) sc_law_made (fun _ => rfl) fun cdv A outer s0 H Q E f g hr hp k => ?_
  obtain ⟨a, r⟩ := g
  obtain ⟨⟨s, l, h1, h2, h3⟩, ok⟩ := hp
  refine ⟨_, (pss_cons (ps_set (i := 1) sc_law_made.nd rfl (Or.inl rfl) (pe_mk (c_Sides_init T) hr (by decide) rfl (pa_cons (pe_ix (ix_listK K rfl) (pe_ix (ix_listK K rfl) (pv 0) pe_int (fun _ _ => rfl)) pe_int (fun _ _ => rfl)) (pa_cons (pe_ix (ix_listK K rfl) (pe_ix (ix_listK K rfl) (pv 0) pe_int (fun _ _ => rfl)) pe_int (fun _ _ => rfl)) (pa_cons (pe_ix (ix_listK K rfl) (pe_ix (ix_listK K rfl) (pv 0) pe_int (fun _ _ => rfl)) pe_int (fun _ _ => rfl)) pa_nil)))))
    (pss_one (ps_ret (pe_mk (c_Parcel_init T) hr (by decide) rfl (pa_cons (pe_ix (ix_listK K rfl) (pv 0) pe_int (fun _ _ => rfl)) (pa_cons (pv 1) (pa_cons (pe_ix (ix_listK K rfl) (pv 0) pe_int (fun _ _ => rfl)) (pa_cons (pe_ix (ix_listK K rfl) (pv 0) pe_int (fun _ _ => rfl)) (pa_cons (pe_ix (ix_listK K rfl) (pv 0) pe_int (fun _ _ => rfl)) (pa_cons (pe_ix (ix_listK K rfl) (pv 0) pe_int (fun _ _ => rfl)) pa_nil)))))))))), ?_⟩
  refine ⟨_, rfl, a, _, 1, _, rfl, rfl, SqL.of h1, rfl, s, _, 0, _, rfl, rfl, SqL.of h2, rfl, _, rfl, a, _, 1, _, rfl, rfl, SqL.of h1, rfl, s, _, 1, _, rfl, rfl, SqL.of h2, rfl, _, rfl, a, _, 1, _, rfl, rfl, SqL.of h1, rfl, s, _, 2, _, rfl, rfl, SqL.of h2, rfl, fun x dx hx hd hne => ⟨(x, dx, r.a, r.b, r.c), rfl, ⟨upd_same, ok.sa, ok.sb, ok.sc⟩, fun v H2 hv => ?_⟩⟩
  obtain ⟨rfl, ch, sa⟩ := hv
  have e2 : Same H H2 := made hx hd ch
  have h1' := e2 _ _ h1
  refine ⟨rfl, ?_⟩
  refine ⟨_, rfl, a, _, 0, _, rfl, rfl, SqL.of h1', rfl, _, rfl, _, rfl, a, _, 2, _, rfl, rfl, SqL.of h1', rfl, _, rfl, a, _, 3, _, rfl, rfl, SqL.of h1', rfl, _, rfl, a, _, 4, _, rfl, rfl, SqL.of h1', rfl, _, rfl, a, _, 5, _, rfl, rfl, SqL.of h1', rfl, fun q dq hq hdq hnq => ⟨(q, dq, r, x, l), rfl, ⟨upd_same, ?_, ?_, ok⟩, fun v H3 hv => ?_⟩⟩
  · exact sa.same fun b o e => by
      rw [upd_ne (ne_of_none e hq), upd_ne (ne_of_none e hdq)]
      exact e
  · rw [upd_ne (ne_of_none (e2 _ _ h3) hq), upd_ne (ne_of_none (e2 _ _ h3) hdq)]
    exact e2 _ _ h3
  · obtain ⟨rfl, ch3, dxp, sp, lp, g1, g2, g3, g4⟩ := hv
    have e3 : Same H2 H3 := made hq hdq ch3
    have hn : ∀ b, H2 b = none → H b = none := Dom.of e2
    refine ⟨rfl, k _ _ ⟨fun b o e => e3 _ _ (e2 _ _ e), q, rfl, hn q hq, dxp, sp, lp, g1, g2, g3, ?_⟩⟩
    refine hn lp ?_
    have := none_of_upd g4
    exact (none_of_upd this.2).2
theorem ParcelN.chg {S : List Addr} {H0 H H' : Hp} {q : Addr} {r : Row} (c : Chg S H H') (hS : ∀ b ∈ S, H0 b ≠ none ∧ ∃ xs, H b = some (.lst xs)) (h : ParcelN K H0 H q r) : ParcelN K H0 H' q r := by
  obtain ⟨dx, s, l, h1, ⟨dxs, t, h2, h3⟩, h4, h5⟩ := h
  have nk : ∀ {b o}, H b = some o → (∀ xs, o ≠ .lst xs) → b ∉ S := fun {b o} e n z => by
    obtain ⟨xs, q⟩ := (hS b z).2
    rw [q] at e
    exact n xs (Option.some.inj e).symm
  exact ⟨dx, s, l, c _ _ (nk h1 (fun _ z => by cases z)) h1, ⟨dxs, t, c _ _ (nk h2 (fun _ z => by cases z)) h2, c _ _ (nk h3 (fun _ z => by cases z)) h3⟩, c _ _ (fun z => (hS l z).1 h5) h4, h5⟩
theorem ParcelN.same {H0 H H' : Hp} {q : Addr} {r : Row} (c : Same H H') (h : ParcelN K H0 H q r) : ParcelN K H0 H' q r := by
  obtain ⟨dx, s, l, h1, h2, h4, h5⟩ := h
  exact ⟨dx, s, l, c _ _ h1, h2.same c, c _ _ h4, h5⟩
theorem ParcelN.left {H0 H1 H : Hp} {q : Addr} {r : Row} (c : Dom H0 H1) (h : ParcelN K H1 H q r) : ParcelN K H0 H q r := by
  obtain ⟨dx, s, l, h1, h2, h4, h5⟩ := h
  exact ⟨dx, s, l, h1, h2, h4, c _ h5⟩
/-- away from what is written -/
theorem ParcelN.del {S : List Addr} {H0 H : Hp} {q : Addr} {r : Row} (hS : ∀ b ∈ S, H0 b ≠ none ∧ ∃ xs, H b = some (.lst xs)) (h : ParcelN K H0 H q r) : ParcelAt K (BX.del S H) q r := by
  obtain ⟨dx, s, l, h1, ⟨dxs, t, h2, h3⟩, h4, h5⟩ := h
  have nk : ∀ {b o}, H b = some o → (∀ xs, o ≠ .lst xs) → b ∉ S := fun {b o} e n z => by
    obtain ⟨xs, q⟩ := (hS b z).2
    rw [q] at e
    exact n xs (Option.some.inj e).symm
  exact ⟨dx, s, l, del_of (nk h1 (fun _ z => by cases z)) h1, ⟨dxs, t, del_of (nk h2 (fun _ z => by cases z)) h2, del_of (nk h3 (fun _ z => by cases z)) h3⟩, del_of (fun z => (hS l z).1 h5) h4⟩
def spLHeap : Sp := SpG (G := Addr × List Addr × List Row) (fun (l, _, _) => [.ref l]) (fun (l, as, rs) H => RowsAt H l as rs ∧ RowsOk rs)
  (fun (l, as, rs) H v H' => Same H H' ∧ ∃ (h L : Addr) (ps : List Addr), v = .ref h ∧ H h = none ∧ H L = none ∧ HeapR K H' h L ps rs ∧ Paired (fun q r => ParcelN K H H' q r) ps rs)
abbrev N_law_heap : List PySem.Str := ["_law_rows_here", "_law_heap_here", "_law_row_here"]
theorem sc_law_heap : FnScope N_law_heap ["_law_rows_here"] d_law_heap.scope := ⟨rfl, rfl, rfl, by decide +kernel, rfl, by decide +kernel, by decide +kernel⟩
theorem c_law_heap (T : TX K mg) : Cal P w K mg base 5 "_law_heap" (spLHeap (K := K)) [] := by
  refine calD T T.f_law_heap rfl T.g_law_heap (bindsN rfl fun _ _ _ _ _ _ us hl => match us, hl with | [_], _ => rfl) sc_law_heap (fun _ => rfl) fun cdv A outer s0 H Q E f g hr hp k => ?_
  obtain ⟨l, as, rs⟩ := g
  obtain ⟨hrow, ok⟩ := hp
  have hlen := hrow.len
  refine ⟨_, (pss_cons (ps_set (i := 1) sc_law_heap.nd rfl (Or.inl rfl) (pe_mk0 (c_Heap_init T) hr (by decide) rfl))
    (pss_cons (ps_for PassesOwn.never rfl (pi_listK K rfl (pv 0)) (pg_name (i := 2) sc_law_heap.nd rfl (Or.inl rfl)) (pss_one (ps_expr (pe_mt (c_Heap_put1 T) hr (by decide) (pv 1) (pa_cons (pe_c (c_law_made T) hr (by decide) rfl (pa_cons (pv 2) pa_nil)) pa_nil)))))
    (pss_one (ps_ret (pv 1))))), ?_⟩
  refine fun h dx hh hd hne => ⟨(h, dx), rfl, upd_same, fun v H2 hv => ?_⟩
  obtain ⟨rfl, ch, L, hL0, hp2⟩ := hv
  have e2 : Same H H2 := made hh hd ch
  have L0 : H L = none := (none_of_upd (none_of_upd hL0).2).2
  have d2 : Dom H H2 := Dom.of e2
  obtain ⟨dxh, hh2⟩ := hp2.ob
  have hL2 := hp2.ls
  refine ⟨rfl, ?_⟩
  have hz : (as.zip rs).map (fun z => z.1) = as := by
    rw [List.map_fst_zip]
    exact Nat.le_of_eq hlen
  have hz2 : (as.zip rs).map (fun z => z.2) = rs := by
    rw [List.map_snd_zip]
    exact Nat.le_of_eq hlen.symm
  have hw : as.map V.ref = (as.zip rs).map fun z => V.ref z.1 := by
    conv => lhs; rw [← hz]
    rw [List.map_map]
    rfl
  have hls := hrow.ls
  rw [hw] at hls
  have oldL : ∀ b o, H b = some o → b ∉ [L] := fun b o e z => by
    rw [List.mem_singleton.mp z, L0] at e
    cases e
  have keep : ∀ H', Chg [L] H2 H' → Same H H' := fun H' c b o e => c _ _ (oldL _ _ e) (e2 _ _ e)
  have hhL : h ∉ [L] := fun z => by
    rw [List.mem_singleton.mp z, hL2] at hh2
    cases hh2
  refine ⟨_, rfl, l, rfl, ⟨_, SqL.of (e2 _ _ hls)⟩, ?_⟩
  refine for_it (wl (K := K) (a := l) (as.zip rs) fun z => V.ref z.1) (fun i σ H' => Chg [L] H2 H' ∧ Sl [2] ((L2.start N_law_heap [V.ref l]).set 1 (some (.ref h))) σ ∧ ∃ ps, H' L = some (.lst (ps.map V.ref)) ∧ Paired (fun q r => ParcelN K H2 H' q r) ps (rs.take i))
    ⟨Chg.refl, Sl.refl, [], hL2, .nil⟩ (fun i σ H' _ q => SqL.of (keep _ q.1 _ _ hls)) ?_ ?_
  · rintro i v σ H3 H4 hi ⟨hc, hσ, ps, hps, hpp⟩ ⟨hH, ⟨a, r⟩, hz4, rfl⟩
    subst hH
    have hri : rs[i]? = some r := by
      conv => lhs; rw [← hz2]
      rw [List.getElem?_map, hz4]
      rfl
    have hrm : r ∈ rs := List.mem_of_getElem? hri
    have hir : i < rs.length := (List.getElem?_eq_some_iff.mp hri).1
    have hi12 : i < 12 := by
      have := ok.l12
      omega
    have hra : RowAt H4 a r := (paired_zip hrow.ps (List.mem_of_getElem? hz4)).same (keep _ hc)
    have hh4 := hc _ _ hhL hh2
    have hpl : ps.length = i := by
      rw [Paired.length hpp, List.length_take]
      omega
    have hσ2 : Sl [2] _ (σ.set 2 (some (.ref a))) := hσ.set (by decide)
    refine ⟨_, hσ2.g 1 (by decide) rfl, h, dxh, _, rfl, hh4, rfl, _, hσ.s, (a, r), rfl, ⟨hra, ok.ok r hrm⟩, fun v H5 hv => ?_⟩
    obtain ⟨e5, q, rfl, hq0, hq⟩ := hv
    have d25 : Dom H2 H4 := fun b hb => by
      by_cases e : b = L
      · rw [e, hps] at hb
        cases hb
      · cases z : H2 b with
        | none => rfl
        | some u =>
          rw [hc b u (fun y => e (List.mem_singleton.mp y)) z] at hb
          cases hb
    have hrk : HeapR K H5 h L ps (rs.take i) := ⟨⟨dxh, e5 _ _ hh4⟩, e5 _ _ hps, Paired.mapP hpp fun q r y => (y.same e5).at'⟩
    refine ⟨(h, L, ps, rs.take i, q, r, .non, (rs.take i).length), rfl, ⟨hrk, hq.at', take_map_notin ok.nd hri, by rw [List.length_take]; omega, .inl ⟨rfl, rfl⟩⟩, fun v H6 hv => ?_⟩
    obtain ⟨rfl, c6, hL6⟩ := hv
    have ltl : (rs.take i).length = ps.length := by rw [List.length_take]; omega
    rw [ltl, List.take_length, List.drop_length, List.append_nil] at hL6
    have hSL : ∀ b ∈ [L], H2 b ≠ none ∧ ∃ xs, H5 b = some (.lst xs) := fun b hb => by
      rw [List.mem_singleton.mp hb]
      exact ⟨(by rw [hL2]; exact fun z => (by cases z)), _, e5 _ _ hps⟩
    refine ⟨Chg.trans (Chg.trans hc (Chg.of e5)) c6, hσ2, ps ++ [q], hL6, ?_⟩
    rw [take_snoc hri]
    exact paired_app (Paired.mapP hpp fun q r y => (y.same e5).chg c6 hSL) (.cons ((hq.left d25).chg c6 hSL) .nil)
  · rintro σ H3 ⟨hc, hσ, ps, hps, hpp⟩
    rw [List.take_of_length_le (by rw [List.length_zip]; omega)] at hpp
    exact ⟨_, hσ.g 1 (by decide) rfl, k _ _ ⟨keep _ hc, h, L, ps, rfl, hh, L0, ⟨⟨dxh, hc _ _ hhL hh2⟩, hps, Paired.mapP hpp fun q r y => y.at'⟩, Paired.mapP hpp fun q r y => y.left d2⟩⟩
end
end BX
end
section
set_option Elab.async false
set_option linter.all false
set_option maxRecDepth 100000
set_option maxHeartbeats 4000000
namespace BX
open PySem PySem.Spec PyProof.Rows L2
open C8 (Cal Mak Met pe_c pe_mk pe_mt pe_mt0 pe_gc)
/-- rank by rank, as the law asks it -/
def asc (a b c : Int) : List Int := [min a (min b c), a + b + c - min a (min b c) - max a (max b c), max a (max b c)]
theorem sorted3a {l : List Int} {a b c : Int} (h : l.Perm [a, b, c]) (s : l.Pairwise (· ≤ ·)) : l = asc a b c := by
  have h2 : l.reverse = ranked a b c := sorted3 ((List.reverse_perm l).trans h) (by
    rw [List.pairwise_reverse]
    exact s)
  have h3 : l = (ranked a b c).reverse := by rw [← h2, List.reverse_reverse]
  rw [h3]
  rfl
def bad (spare : Int) (r q : Row) (k : Nat) : Bool := decide (((asc q.a q.b q.c)[k]?).getD 0 < ((asc r.a r.b r.c)[k]?).getD 0 + spare + 2 * q.wall)
theorem goes_bad {spare : Int} {r q : Row} (hr : RowOk r) (hs : 0 ≤ spare) : (!r.alone && (!q.alone && ((List.range 3).filter (bad spare r q)).isEmpty)) = goesR spare r q := by
  unfold goesR
  congr 2
  have e : (List.range 3).filter (bad spare r q) = (([0, 1, 2] : List Nat).filter (bad spare r q)) := rfl
  rw [e, Bool.eq_iff_iff, List.isEmpty_iff, List.filter_eq_nil_iff]
  have h1 := hr.sa.1
  have h2 := hr.sb.1
  have h3 := hr.sc.1
  unfold bad roomy fitsR asc ranked
  simp only [List.mem_cons, List.not_mem_nil, or_false, forall_eq_or_imp, forall_eq, decide_eq_true_eq, List.getElem?_cons_zero, List.getElem?_cons_succ, Option.getD_some, Bool.and_eq_true, List.zip_cons_cons, List.zip_nil_right, List.all_cons, List.all_nil, and_true]
  omega
section
variable {P : Program} {w : World} {K : PySem.W.Frag} {mg : Str → Option Value} {base : Heap}
def spGoes : Sp := SpG (G := Addr × Addr × Row × Row × Int) (fun (a, b, _, _, i) => [.ref a, .ref b, .int i]) (fun (a, b, r, q, i) H => RowAt H a r ∧ RowAt H b q ∧ RowOk r ∧ RowOk q ∧ 0 ≤ i) (fun (a, b, r, q, i) H v H' => Same H H' ∧ v = .bl (goesR i r q))
abbrev N_law_goes : List PySem.Str := ["_law_one", "_law_other", "_law_spare_here", "_law_lesser", "_law_greater", "_law_k"]
theorem sc_law_goes : FnScope N_law_goes ["_law_one", "_law_other", "_law_spare_here"] d_law_goes.scope := ⟨rfl, rfl, rfl, by decide +kernel, rfl, by decide +kernel, by decide +kernel⟩
theorem c_law_goes (T : TX K mg) : Cal P w K mg base 1 "_law_goes" spGoes [] := by
  refine calD T T.f_law_goes rfl T.g_law_goes (bindsN rfl fun _ _ _ _ _ _ us hl => match us, hl with | [_, _, _], _ => rfl) sc_law_goes (fun _ => rfl) fun cdv A outer s0 H Q E f g hr hp k => ?_
  obtain ⟨a, b, r, q, i⟩ := g
  obtain ⟨⟨sa, la, a1, a2, a3⟩, ⟨sb, lb, b1, b2, b3⟩, okr, okq, hi⟩ := hp
  have hg := goes_bad (q := q) okr hi
  refine ⟨_, (pss_cons (ps_if (PW.pt (pw_or (pt_cmpR (op_inK K rfl) pe_str (pe_ix (ix_listK K rfl) (pv 0) pe_int (fun _ _ => rfl)) rfl) (pw_or1 (pt_cmpR (op_inK K rfl) pe_str (pe_ix (ix_listK K rfl) (pv 1) pe_int (fun _ _ => rfl)) rfl)))) (pss_one (ps_ret pe_bl)) pss_nil)
    (pss_cons (ps_asg (pe_tup (pa_cons (pe_callB (cr_sorted) rfl T.n_sorted b_sorted (pa_cons (pe_ix (ix_listK K rfl) (pv 0) pe_int (fun _ _ => rfl)) pa_nil)) (pa_cons (pe_callB (cr_sorted) rfl T.n_sorted b_sorted (pa_cons (pe_ix (ix_listK K rfl) (pv 1) pe_int (fun _ _ => rfl)) pa_nil)) pa_nil))) (pg_tupK (n := 2) K rfl rfl (pgs_cons (pg_name (i := 3) sc_law_goes.nd rfl (Or.inr rfl)) (pgs_cons (pg_name (i := 4) sc_law_goes.nd rfl (Or.inr rfl)) pgs_nil))))
    (pss_one (ps_ret (pe_cmpR (op_eqDK K rfl hr.units) (pe_lc (own := [("_law_k", 5)]) rfl sc_law_goes.nd (pi_range1 rfl T.n_range (pa_cons pe_int pa_nil)) (blkOk_by (own := [("_law_k", 5)]) (N := N_law_goes) (sc := d_law_goes.scope) (by decide +kernel)) (fun _ _ _ _ _ => (pg_name (i := 5) sc_law_goes.nd rfl (Or.inl rfl))) (fun _ _ _ _ _ => (pts_one (pt_cmpR (op_gt) (pe_op op_add (pe_op op_add (pe_ix (ix_listK K rfl) (pv 3) (pv 5) (fun _ _ => rfl)) (pv 2)) (pe_op op_mulW pe_int (pe_ix (ix_listK K rfl) (pv 1) pe_int (fun _ _ => rfl)))) (pe_ix (ix_listK K rfl) (pv 4) (pv 5) (fun _ _ => rfl)) (nomark _)))) (fun _ _ _ _ _ => (pv 5))) (pe_lst pa_nil) (nomark _)))))), ?_⟩
  refine ⟨_, rfl, a, _, 5, _, rfl, rfl, SqL.of a1, rfl, la, _, rfl, .inl (SqL.of a3), rfl, flat_strs _, _, rfl, ?_⟩
  rw [if_neg Bool.false_ne_true, inV_str]
  show if r.alone = true then _ else _
  cases hra : r.alone with
  | true =>
    refine iteT (iteT (k _ _ ⟨fun _ _ e => e, ?_⟩))
    rw [← hg, hra]
    rfl
  | false =>
    refine iteF ⟨_, rfl, b, _, 5, _, rfl, rfl, SqL.of b1, rfl, lb, _, rfl, .inl (SqL.of b3), rfl, flat_strs _, _, rfl, ?_⟩
    rw [if_neg Bool.false_ne_true, inV_str]
    show if q.alone = true then _ else _
    cases hqa : q.alone with
    | true =>
      refine iteT (k _ _ ⟨fun _ _ e => e, ?_⟩)
      rw [← hg, hra, hqa]
      rfl
    | false =>
      refine iteF ?_
      refine ⟨_, rfl, a, _, 1, _, rfl, rfl, SqL.of a1, rfl, sa, [r.a, r.b, r.c], rfl, SqL.of a2, by show 3 < 64; decide, fun n1 p1 hpm1 hs1 hp1 => ?_⟩
      rw [sorted3a hpm1 hs1]
      have e1 := same_new hp1 (.lst ((asc r.a r.b r.c).map V.int))
      have i1 : upd H p1 (.lst ((asc r.a r.b r.c).map V.int)) p1 = _ := upd_same
      refine ⟨_, rfl, b, _, 1, _, rfl, rfl, SqL.of (e1 _ _ b1), rfl, sb, [q.a, q.b, q.c], rfl, SqL.of (e1 _ _ b2), by show 3 < 64; decide, fun n2 p2 hpm2 hs2 hp2 => ?_⟩
      rw [sorted3a hpm2 hs2]
      have e2 := same_new hp2 (.lst ((asc q.a q.b q.c).map V.int))
      have i2 : upd (upd H p1 (.lst ((asc r.a r.b r.c).map V.int))) p2 (.lst ((asc q.a q.b q.c).map V.int)) p2 = _ := upd_same
      have i12 := e2 _ _ i1
      have e02 : Same H (upd (upd H p1 (.lst ((asc r.a r.b r.c).map V.int))) p2 (.lst ((asc q.a q.b q.c).map V.int))) := fun b o e => e2 _ _ (e1 _ _ e)
      refine ⟨small 2 (by decide), fun t ht => ⟨t, _, rfl, SqT.of upd_same, rfl, _, _, rfl, _, _, rfl, rfl, ?_⟩⟩
      have e3 := same_new ht (.tup [.ref p1, .ref p2])
      have e03 : Same H (upd (upd (upd H p1 (.lst ((asc r.a r.b r.c).map V.int))) p2 (.lst ((asc q.a q.b q.c).map V.int))) t (.tup [.ref p1, .ref p2])) := fun b o e => e3 _ _ (e02 _ _ e)
      have j1 := e3 _ _ i12
      have j2 := e3 _ _ i2
      refine ⟨3, rfl, by decide, by decide, fun D hD => ?_⟩
      refine lc_pure (J := Itr 0 3) (l := List.range 3) (fun i => V.int (i : Nat)) (fun z => if bad i r q z = true then some (V.int (z : Nat)) else none) (wr 3) (fun _ _ => trivial) (by decide) hD ?_ ?_
      · intro z H' hz hs Qy Qn y n
        have hz3 : z < 3 := List.mem_range.mp hz
        have at1 : ∃ v, atI ((asc r.a r.b r.c).map V.int) (z : Nat) = some (.int v) ∧ ((asc r.a r.b r.c)[z]?).getD 0 = v := by
          have hl : z < (asc r.a r.b r.c).length := hz3
          refine ⟨(asc r.a r.b r.c)[z], atI_nat ?_, ?_⟩
          · rw [List.getElem?_map, List.getElem?_eq_getElem hl]
            rfl
          · rw [List.getElem?_eq_getElem hl]
            rfl
        have at2 : ∃ v, atI ((asc q.a q.b q.c).map V.int) (z : Nat) = some (.int v) ∧ ((asc q.a q.b q.c)[z]?).getD 0 = v := by
          have hl : z < (asc q.a q.b q.c).length := hz3
          refine ⟨(asc q.a q.b q.c)[z], atI_nat ?_, ?_⟩
          · rw [List.getElem?_map, List.getElem?_eq_getElem hl]
            rfl
          · rw [List.getElem?_eq_getElem hl]
            rfl
        obtain ⟨v1, g1, g1'⟩ := at1
        obtain ⟨v2, g2, g2'⟩ := at2
        have hbd : bad i r q z = decide (v2 < v1 + i + 2 * q.wall) := by
          unfold bad
          rw [g1', g2']
        have wl2 := okq.wl
        refine ⟨rfl, _, rfl, _, rfl, p1, _, _, _, rfl, rfl, SqL.of (hs _ _ j1), g1, _, rfl, _, _, rfl, rfl, _, rfl, b, _, 2, _, rfl, rfl, SqL.of (hs _ _ (e03 _ _ b1)), rfl, _, _, rfl, rfl, mulS (by decide) (by omega), _, _, rfl, rfl, _, rfl, _, rfl, p2, _, _, _, rfl, rfl, SqL.of (hs _ _ j2), g2, _, _, rfl, rfl, _, rfl, ?_⟩
        rw [← hbd]
        cases hb : bad i r q z with
        | true => exact iteT ⟨_, rfl, y _ _ (if_pos hb) fun _ _ h => h⟩
        | false => exact iteF (n _ (if_neg (by rw [hb]; decide)) fun _ _ h => h)
      intro H7 hs7 hD7
      have efm : (List.range 3).filterMap (fun z => if bad i r q z = true then some (V.int (z : Nat)) else none) = (((List.range 3).filter (bad i r q)).map fun z : Nat => (z : Int)).map V.int := by
        rw [fm_if (fun z => bad i r q z = true), List.map_map]
        congr 1
        exact List.filter_congr fun z _ => by cases bad i r q z <;> rfl
      rw [efm] at hD7
      refine ⟨small 0 (by decide), fun q0 hq0 => ?_⟩
      have e8 := same_new hq0 (.lst [])
      have i8 : upd H7 q0 (.lst []) q0 = some (.lst (([] : List Int).map V.int)) := upd_same
      refine ⟨_, _, dp_ints (e8 _ _ hD7), dp_ints i8, sh_ints, sh_ints, ?_⟩
      show Q (V.bl (PyData.eqv (.list ((((List.range 3).filter (bad i r q)).map fun z : Nat => (z : Int)).map PyData.int)) (.list []))) _
      rw [eqv_nil]
      refine k _ _ ⟨fun b o e => e8 _ _ (hs7 _ _ (e03 _ _ e)), ?_⟩
      rw [← hg, hra, hqa]
      refine congrArg V.bl ?_
      cases (List.range 3).filter (bad i r q) <;> rfl
end
end BX
end
section
set_option Elab.async false
set_option linter.all false
set_option maxRecDepth 100000
set_option maxHeartbeats 4000000
namespace BX
open PySem PySem.Spec PyProof.Rows L2
open C8 (Cal Mak Met pe_c pe_mk pe_mt pe_mt0 pe_gc)
/-! ### one order of texts -/
theorem lt_cons (a b : Nat) (r t : List Nat) : ltCps (a :: r) (b :: t) = false ↔ ¬ a < b ∧ (a = b → ltCps r t = false) := by
  show (decide (a < b) || (a == b && ltCps r t)) = false ↔ _
  rw [Bool.or_eq_false_iff, decide_eq_false_iff_not, Bool.and_eq_false_iff, beq_eq_false_iff_ne]
  constructor
  · rintro ⟨h1, h2⟩
    exact ⟨h1, fun e => h2.resolve_left fun n => n e⟩
  · rintro ⟨h1, h2⟩
    refine ⟨h1, ?_⟩
    by_cases e : a = b
    · exact .inr (h2 e)
    · exact .inl e
theorem le_tr : ∀ {a b c : List Nat}, ltCps b a = false → ltCps c b = false → ltCps c a = false
  | [], _, [], _, _ => rfl
  | [], _, _ :: _, _, _ => rfl
  | _ :: _, [], _, h, _ => by cases h
  | a :: r, b :: t, [], _, h => by cases h
  | a :: r, b :: t, c :: u, h1, h2 => by
    rw [lt_cons] at h1 h2 ⊢
    refine ⟨by omega, fun e => ?_⟩
    exact le_tr (h1.2 (by omega)) (h2.2 (by omega))
theorem le_as : ∀ {a b : List Nat}, ltCps b a = false → ltCps a b = false → a = b
  | [], [], _, _ => rfl
  | [], _ :: _, _, h => by cases h
  | _ :: _, [], h, _ => by cases h
  | a :: r, b :: t, h1, h2 => by
    rw [lt_cons] at h1 h2
    have e : a = b := by omega
    rw [e, le_as (h1.2 e.symm) (h2.2 e)]
def leS (a b : Str) : Prop := ltCps b.cps.toList a.cps.toList = false
theorem rising_pw : ∀ (l : List Str) (p : Str), risingS p l = true → (∀ x ∈ l, leS p x) ∧ l.Pairwise leS
  | [], p, _ => ⟨(fun _ h => by cases h), .nil⟩
  | x :: r, p, h => by
    have h1 : (!ltCps x.cps.toList p.cps.toList && risingS x r) = true := h
    rw [Bool.and_eq_true] at h1
    obtain ⟨h2, h3⟩ := h1
    have hpx : leS p x := by
      unfold leS
      cases e : ltCps x.cps.toList p.cps.toList with
      | false => rfl
      | true =>
        rw [e] at h2
        cases h2
    obtain ⟨q1, q2⟩ := rising_pw r x h3
    refine ⟨fun y hy => ?_, List.pairwise_cons.mpr ⟨q1, q2⟩⟩
    rcases List.mem_cons.mp hy with e | e
    · rw [e]
      exact hpx
    · exact le_tr hpx (q1 y e)
theorem sorted_pw {l : List Str} (h : sortedS l = true) : l.Pairwise leS := by
  cases l with
  | nil => exact .nil
  | cons x r =>
    obtain ⟨q1, q2⟩ := rising_pw r x h
    exact List.pairwise_cons.mpr ⟨q1, q2⟩
theorem pw_unique : ∀ {l m : List Str}, l.Pairwise leS → m.Pairwise leS → l.Perm m → l = m
  | [], m, _, _, h => (List.Perm.eq_nil h.symm).symm
  | x :: l, [], _, _, h => absurd h.length_eq (by simp)
  | x :: l, y :: m, hl, hm, h => by
    rw [List.pairwise_cons] at hl hm
    have e : x = y := by
      rcases List.mem_cons.mp (h.mem_iff.mp List.mem_cons_self) with q | q
      · exact q
      · rcases List.mem_cons.mp (h.mem_iff.mpr List.mem_cons_self) with r | r
        · exact r.symm
        · exact tl_ext (le_as (hl.1 y r) (hm.1 x q))
    subst e
    rw [pw_unique hl.2 hm.2 (List.Perm.cons_inv h)]
theorem sorted_unique {l m : List Str} (h1 : sortedS l = true) (h2 : sortedS m = true) (p : l.Perm m) : l = m := pw_unique (sorted_pw h1) (sorted_pw h2) p
section
variable {P : Program} {w : World} {K : PySem.W.Frag} {mg : Str → Option Value} {base : Heap}
def spOutw : Sp := SpG (G := Addr × List Addr × List Row × Int) (fun (l, _, _, i) => [.ref l, .int i]) (fun (l, as, rs, i) H => RowsAt H l as rs ∧ RowsOk rs ∧ 0 ≤ i) (fun (l, as, rs, i) H v H' => Same H H' ∧ ∃ d, v = .ref d ∧ H d = none ∧ OutAt H' d (outOf i rs))
abbrev N_law_outwards : List PySem.Str := ["_law_rows_here", "_law_spare_here", "_law_found", "_law_one", "_law_other"]
theorem sc_law_outwards : FnScope N_law_outwards ["_law_rows_here", "_law_spare_here"] d_law_outwards.scope := ⟨rfl, rfl, rfl, by decide +kernel, rfl, by decide +kernel, by decide +kernel⟩
theorem c_law_outwards (T : TX K mg) : Cal P w K mg base 2 "_law_outwards" spOutw [] := by
  refine calD T T.f_law_outwards rfl T.g_law_outwards (bindsN rfl fun _ _ _ _ _ _ us hl => match us, hl with | [_, _], _ => rfl) sc_law_outwards (fun _ => rfl) fun cdv A outer s0 H Q E f g hr hp k => ?_
  obtain ⟨l, as, rs, sp⟩ := g
  obtain ⟨hrow, ok, hi0⟩ := hp
  have hlen := hrow.len
  refine ⟨_, (pss_cons (ps_set (i := 2) sc_law_outwards.nd rfl (Or.inl rfl) pe_dnewK)
    (pss_cons (ps_for PassesOwn.never rfl (pi_listK K rfl (pv 0)) (pg_name (i := 3) sc_law_outwards.nd rfl (Or.inr rfl)) (pss_one (ps_dput (hu_of hr) (pv 2) (pe_ix (ix_listK K rfl) (pv 3) pe_int (fun _ _ => rfl)) (pe_lc (own := [("_law_other", 4)]) rfl sc_law_outwards.nd (pi_listK K rfl (pv 0)) (blkOk_by (own := [("_law_other", 4)]) (N := N_law_outwards) (sc := d_law_outwards.scope) (by decide +kernel)) (fun _ _ _ _ _ => (pg_name (i := 4) sc_law_outwards.nd rfl (Or.inl rfl))) (fun _ _ _ _ _ => (pts_one (pt_val (pe_c (c_law_goes T) hr (by decide) rfl (pa_cons (pv 3) (pa_cons (pv 4) (pa_cons (pv 1) pa_nil))))))) (fun _ _ _ _ _ => (pe_ix (ix_listK K rfl) (pv 4) pe_int (fun _ _ => rfl)))) rfl)))
    (pss_one (ps_ret (pv 2))))), ?_⟩
  refine fun d hd => ?_
  have e4 : Same H (upd H d (.dK [])) := same_new hd _
  have d4 : upd H d (.dK []) d = some (.dK []) := upd_same
  generalize upd H d (.dK []) = H4 at e4 d4
  have hz : (as.zip rs).map (fun z => z.1) = as := by
    rw [List.map_fst_zip]
    exact Nat.le_of_eq hlen
  have hz2 : (as.zip rs).map (fun z => z.2) = rs := by
    rw [List.map_snd_zip]
    exact Nat.le_of_eq hlen.symm
  have hw : as.map V.ref = (as.zip rs).map fun z => V.ref z.1 := by
    conv => lhs; rw [← hz]
    rw [List.map_map]
    rfl
  have yl : (as.zip rs).length ≤ 12 := by
    have := ok.l12
    rw [List.length_zip]
    omega
  have hls := hrow.ls
  rw [hw] at hls
  have hdn : ∀ b o, H b = some o → b ∉ [d] := fun b o e z => by
    rw [List.mem_singleton.mp z, hd] at e
    cases e
  have keep : ∀ H', Chg [d] H4 H' → Same H H' := fun H' c b o e => c _ _ (hdn _ _ e) (e4 _ _ e)
  refine ⟨_, rfl, l, rfl, ⟨_, SqL.of (e4 _ _ hls)⟩, ?_⟩
  refine for_it (wl (K := K) (a := l) (as.zip rs) fun z => V.ref z.1) (fun i σ H' => Chg [d] H4 H' ∧ Sl [3, 4] ((L2.start N_law_outwards [V.ref l, .int sp]).set 2 (some (.ref d))) σ ∧ OutAt H' d ((outOf sp rs).take i))
    ⟨Chg.refl, Sl.refl, [], d4, .nil⟩ (fun i σ H' _ h => SqL.of (keep _ h.1 _ _ hls)) ?_ ?_
  · rintro i v σ5 H5 H6 hi ⟨hc5, hσ5, kvs, hkv, hpk⟩ ⟨hH, ⟨t, r⟩, hz6, rfl⟩
    subst hH
    have hri : rs[i]? = some r := by
      conv => lhs; rw [← hz2]
      rw [List.getElem?_map, hz6]
      rfl
    have hrm : r ∈ rs := List.mem_of_getElem? hri
    have h6 : Same H H6 := keep _ hc5
    have hra : RowAt H t r := paired_zip hrow.ps (List.mem_of_getElem? hz6)
    have hσ2 : Sl [3, 4] _ (σ5.set 3 (some (.ref t))) := hσ5.set (by decide)
    have s3 : (σ5.set 3 (some (.ref t)))[3]? = some (some (.ref t)) := hσ5.s
    generalize hσe : σ5.set 3 (some (.ref t)) = σ6 at hσ2 s3
    show sDPut _ _ _ _ (σ5.set 3 (some (.ref t))) H6
    rw [hσe]
    have hls6 := h6 _ _ hls
    refine ⟨_, hσ2.g 0 (by decide) rfl, l, rfl, ⟨_, SqL.of hls6⟩, fun D hD => ?_⟩
    refine lc_pure (J := Itl _ l) (l := as.zip rs) (fun z => V.ref z.1) (fun z => if goesR sp r z.2 = true then some (V.str z.2.name) else none) (wl (as.zip rs) fun z => V.ref z.1) (fun _ e => sg hls6 e) (by omega) hD ?_ ?_
    · rintro ⟨t2, r2⟩ H7 hm hs Qy Qn yy nn
      have hm2 : r2 ∈ rs := (List.of_mem_zip hm).2
      have h7 : Same H H7 := fun b o e => hs _ _ (h6 _ _ e)
      have hra2 : RowAt H t2 r2 := paired_zip hrow.ps hm
      have w3 : ((wipe σ6 [4]).set 4 (some (V.ref t2)))[3]? = some (some (.ref t)) := by
        show ((σ6.set 4 none).set 4 (some (V.ref t2)))[3]? = _
        rw [List.set_set, List.getElem?_set_ne (by decide)]
        exact s3
      refine ⟨wipe1, _, w3, _, hσ2.s1, _, (hσ2.w1 (by decide)).g 1 (by decide) rfl, (t, t2, r, r2, sp), rfl, ⟨hra.same h7, hra2.same h7, ok.ok r hrm, ok.ok r2 hm2, hi0⟩, fun v H8 hv => ?_⟩
      obtain ⟨e8, rfl⟩ := hv
      refine ⟨_, rfl, ite2 (fun c => ?_) (fun c => ?_)⟩
      · obtain ⟨sx, lx, g1, _⟩ := (hra2.same h7).same e8
        exact ⟨_, hσ2.s1, t2, _, 0, _, rfl, rfl, SqL.of g1, rfl, yy _ _ (if_pos c) e8⟩
      · exact nn _ (if_neg c) e8
    intro H7 hs7 hD7
    have hfm : (as.zip rs).filterMap (fun z => if goesR sp r z.2 = true then some (V.str z.2.name) else none) = ((rs.filter (goesR sp r)).map Row.name).map V.str := by
      conv => rhs; rw [← hz2]
      generalize as.zip rs = zs
      induction zs with
      | nil => rfl
      | cons z zs ih =>
        rw [List.filterMap_cons, List.map_cons, List.filter_cons, ih]
        cases goesR sp r z.2
        · rfl
        · rfl
    rw [hfm] at hD7
    have hkl : kvs.length = ((outOf sp rs).take i).length := Paired.length hpk
    have nk : (Sum.inr r.name : Key) ∉ kvs.map (·.1) := by
      rw [paired_fst hpk]
      intro hm
      obtain ⟨p, hp, e⟩ := List.mem_map.mp hm
      have e' : p.1 = r.name := Sum.inr.inj e
      have : r.name ∈ (rs.take i).map Row.name := by
        unfold outOf at hp
        rw [← List.map_take] at hp
        obtain ⟨r', hr', e2⟩ := List.mem_map.mp hp
        rw [← e', ← e2]
        exact List.mem_map_of_mem hr'
      exact take_map_notin ok.nd hri this
    obtain ⟨sx, lx, g1, _⟩ := (hra.same h6).same hs7
    refine ⟨_, hσ2.g 2 (by decide) rfl, _, s3, t, _, 0, _, rfl, rfl, SqL.of g1, rfl, d, _, rfl, DPut.k (k := Sum.inr r.name) (hs7 _ _ hkv) ?_, ?_⟩
    · rw [hkl, List.length_take]
      unfold outOf
      rw [List.length_map]
      have := ok.l12
      exact smallt _ (by omega)
    · rw [putK_end nk]
      refine ⟨Chg.upd (fun b o n e => hs7 _ _ (hc5 _ _ n e)) (List.mem_singleton_self d), hσ2, _, upd_same, ?_⟩
      have hoi : (outOf sp rs)[i]? = some (r.name, (rs.filter (goesR sp r)).map Row.name) := by
        unfold outOf
        rw [List.getElem?_map, hri]
        rfl
      rw [take_snoc hoi]
      have keepl : ∀ l xs, H7 l = some (.lst xs) → upd H7 d (.dK (kvs ++ [((Sum.inr r.name : Key), V.ref D)])) l = some (.lst xs) := fun l xs h => by
        rw [upd_ne (ne_of h (hs7 _ _ hkv) (by intro z; cases z))]
        exact h
      refine paired_app (Paired.mapP hpk fun kv p ⟨a1, l1, a2, a3⟩ => ⟨a1, l1, a2, keepl _ _ (hs7 _ _ a3)⟩) (.cons ⟨rfl, D, rfl, keepl _ _ hD7⟩ .nil)
  · rintro σ6 H6 ⟨hc6, hσ6, ho⟩
    rw [List.take_of_length_le (by unfold outOf; rw [List.length_map, List.length_zip]; omega)] at ho
    exact ⟨_, hσ6.g 2 (by decide) rfl, k _ _ ⟨keep _ hc6, d, rfl, hd, ho⟩⟩
def spLWhole : Sp := SpG (G := Int × Int) (fun (z, i) => [.int z, .int i]) (fun _ _ => True) (fun (z, i) H v H' => H' = H ∧ v = .bl (decide (i ≤ z)))
abbrev N_law_whole : List PySem.Str := ["_law_found", "_law_low"]
theorem sc_law_whole : FnScope N_law_whole ["_law_found", "_law_low"] d_law_whole.scope := ⟨rfl, rfl, rfl, by decide +kernel, rfl, by decide +kernel, by decide +kernel⟩
theorem c_law_whole (T : TX K mg) : Cal P w K mg base 1 "_law_whole" spLWhole [] := by
  refine calD T T.f_law_whole rfl T.g_law_whole (bindsN rfl fun _ _ _ _ _ _ us hl => match us, hl with | [_, _], _ => rfl) sc_law_whole (fun _ => rfl) fun cdv A outer s0 H Q E f g hr hp k => ?_
  obtain ⟨z, i⟩ := g
  refine ⟨_, (pss_one (ps_ret (pe_and (pe_callB (isiK K rfl) rfl T.n_isinstance b_isinstance (pa_cons (pv 0) (pa_cons (pe_bltn (v := .ty "int") rfl T.n_int b_int rfl) pa_nil))) (pe_and (pe_not (pe_callB (isiK K rfl) rfl T.n_isinstance b_isinstance (pa_cons (pv 0) (pa_cons (pe_bltn (v := .ty "bool") rfl T.n_bool b_bool rfl) pa_nil)))) (pe_one (pe_cmpR (op_ge) (pv 0) (pv 1) (nomark _))))))), ?_⟩
  refine ⟨_, rfl, _, _, _, _, true, rfl, .ty _, ty_int z, kit_ty (by decide +kernel), _, rfl, iteT ?_⟩
  refine ⟨_, rfl, _, _, _, _, false, rfl, .ty _, ty_int z, kit_ty (by decide +kernel), _, rfl, _, rfl, iteT ?_⟩
  exact ⟨_, rfl, _, rfl, _, _, rfl, rfl, k _ _ ⟨rfl, rfl⟩⟩
def spUnlike : Sp := SpG (G := Addr × Addr × List Str × List Str) (fun (l, kn, _, _) => [.ref l, .ref kn]) (fun (l, kn, xs, ks) H => H l = some (.lst (xs.map V.str)) ∧ H kn = some (.lst (ks.map V.str)) ∧ xs.Nodup ∧ (∀ x ∈ xs, x ∈ ks) ∧ xs.length ≤ 12) (fun _ H v H' => Same H H' ∧ v = .bl true)
abbrev N_law_unlike : List PySem.Str := ["_law_thing", "_law_known", "_law_name"]
theorem sc_law_unlike : FnScope N_law_unlike ["_law_thing", "_law_known"] d_law_unlike.scope := ⟨rfl, rfl, rfl, by decide +kernel, rfl, by decide +kernel, by decide +kernel⟩
theorem c_law_unlike (T : TX K mg) : Cal P w K mg base 1 "_law_unlike" spUnlike [] := by
  refine calD T T.f_law_unlike rfl T.g_law_unlike (bindsN rfl fun _ _ _ _ _ _ us hl => match us, hl with | [_, _], _ => rfl) sc_law_unlike (fun _ => rfl) fun cdv A outer s0 H Q E f g hr hp k => ?_
  obtain ⟨l, kn, xs, ks⟩ := g
  obtain ⟨hl, hkn, hnd, hsub, h12⟩ := hp
  refine ⟨_, (pss_cons (ps_if (pt_not (pt_val (pe_callB (isiK K rfl) rfl T.n_isinstance b_isinstance (pa_cons (pv 0) (pa_cons (pe_bltn (v := .ty "list") rfl T.n_list b_list rfl) pa_nil))))) (pss_one (ps_ret pe_bl)) pss_nil)
    (pss_cons (ps_if (pt_cmpR (op_neDK K rfl hr.units) (pe_lc (own := [("_law_name", 2)]) rfl sc_law_unlike.nd (pi_listK K rfl (pv 0)) (blkOk_by (own := [("_law_name", 2)]) (N := N_law_unlike) (sc := d_law_unlike.scope) (by decide +kernel)) (fun _ _ _ _ _ => (pg_name (i := 2) sc_law_unlike.nd rfl (Or.inl rfl))) (fun _ _ _ _ _ => (pts_one (PW.pt (pw_or (pt_not (pt_val (pe_callB (isiK K rfl) rfl T.n_isinstance b_isinstance (pa_cons (pv 2) (pa_cons (pe_bltn (v := .ty "str") rfl T.n_str b_str rfl) pa_nil))))) (pw_or1 (pt_cmpR (op_notInK K rfl) (pv 2) (pv 1) rfl)))))) (fun _ _ _ _ _ => (pv 2))) (pe_lst pa_nil) (nomark _)) (pss_one (ps_ret pe_bl)) pss_nil)
    (pss_one (ps_ret (pe_cmpR (op_eq) (pe_lenSetS rfl rfl T.n_len rfl T.n_set (pv 0)) (pe_callB (call_len_seq) rfl T.n_len b_len (pa_cons (pv 0) pa_nil)) (nomark _)))))), ?_⟩
  refine ⟨_, rfl, _, _, _, _, true, rfl, .ty _, ty_lst hl, kit_ty (by decide +kernel), _, rfl, iteF ?_⟩
  refine ⟨_, rfl, l, rfl, ⟨_, SqL.of hl⟩, fun D hD => ?_⟩
  refine lc_pure (J := Itl _ l) (l := xs) V.str (fun _ => none) (wl xs V.str) (fun _ e => sg hl e) (by omega) hD ?_ ?_
  · intro x H' hx hs Qy Qn y n
    refine ⟨rfl, _, rfl, _, _, _, _, true, rfl, .ty _, ty_str x, kit_ty (by decide +kernel), _, rfl, iteF ?_⟩
    refine ⟨_, rfl, _, rfl, kn, _, rfl, .inl (SqL.of (hs _ _ hkn)), rfl, flat_strs _, _, rfl, ?_⟩
    rw [if_pos rfl, inV_str, decide_eq_true (hsub x hx)]
    exact iteF (n _ rfl fun _ _ h => h)
  intro H2 hs hD2
  have en : xs.filterMap (fun _ => (none : Option V)) = [] := by
    induction xs with
    | nil => rfl
    | cons x xs ih =>
      rw [List.filterMap_cons]
      exact List.filterMap_eq_nil_iff.mpr fun _ _ => rfl
  rw [en] at hD2
  refine ⟨small 0 (by decide), fun q hq => ?_⟩
  have e3 := same_new hq (.lst [])
  have i3 : upd H2 q (.lst []) q = some (.lst (([] : List Str).map V.str)) := upd_same
  refine ⟨_, _, dp_strs (xs := []) (e3 _ _ hD2), dp_strs i3, sh_strs (fun _ h => (by cases h)), sh_strs (fun _ h => (by cases h)), false, by rw [show ([] : List Str).map PyData.str = [] from rfl, eqv_nil]; rfl, iteF ?_⟩
  have hl3 := e3 _ _ (hs _ _ hl)
  refine ⟨_, rfl, l, xs, rfl, SqL.of hl3, by omega, hnd, _, rfl, l, _, rfl, .inl (SqL.of hl3), rfl, k _ _ ⟨fun b o e => e3 _ _ (hs _ _ e), congrArg V.bl ?_⟩⟩
  rw [List.length_map]
  exact decide_eq_true rfl
end
end BX
end
section
set_option Elab.async false
set_option linter.all false
set_option maxRecDepth 100000
set_option maxHeartbeats 4000000
namespace BX
open PySem PySem.Spec PyProof.Rows L2
open C8 (Cal Mak Met pe_c pe_mk pe_mt pe_mt0 pe_gc)
theorem sOk_nil : SeqAt.shaped (.list []) = true := sh_ints (xs := [])
theorem eqv_self_strs (xs : List Str) : PyData.eqv (.list (xs.map PyData.str)) (.list (xs.map PyData.str)) = true := by
  show PyData.eqvAll _ _ = true
  rw [eqv_strs]
  exact decide_eq_true rfl
theorem fm_none {α : Type} (l : List α) : l.filterMap (fun _ => (none : Option V)) = [] := List.filterMap_eq_nil_iff.mpr fun _ _ => rfl
section
variable {P : Program} {w : World} {K : PySem.W.Frag} {mg : Str → Option Value} {base : Heap}
theorem dp_nil {H : Hp} {a : Addr} (h : H a = some (.lst [])) : Dp K H (.ref a) (.list []) := .lst (SqL.of h) .nil
theorem keys_lst {H : Hp} {d : Addr} {o : List (Str × List Str)} (h : OutAt H d o) : ∃ kvs, Rd H d (.dK kvs) ∧ kvs.map (fun kv => kV kv.1) = (o.map (·.1)).map V.str := by
  obtain ⟨kvs, h1, h2⟩ := h
  exact ⟨kvs, .inl h1, by rw [paired_keys h2, List.map_map]; rfl⟩
/-- a nest along the table -/
structure NestOk (o : List (Str × List Str)) (xs : List Str) : Prop where
  ne : xs ≠ []
  nd : xs.Nodup
  sub : ∀ x ∈ xs, x ∈ o.map (·.1)
  go : ∀ i x y, xs[i]? = some x → xs[i + 1]? = some y → y ∈ outT o x
theorem NestOk.l12 {o : List (Str × List Str)} {xs : List Str} (h : NestOk o xs) (ok : TabOk o) : xs.length ≤ 12 := by
  have := KM.nodup_len h.nd h.sub
  rw [List.length_map] at this
  have := ok.l12
  omega
def spIsNest : Sp := SpG (G := Addr × Addr × List (Str × List Str) × List Str) (fun (d, l, _, _) => [.ref d, .ref l]) (fun (d, l, o, xs) H => OutAt H d o ∧ TabOk o ∧ (∀ x ∈ o.map (·.1), SOk x) ∧ H l = some (.lst (xs.map V.str)) ∧ NestOk o xs) (fun _ H v H' => Same H H' ∧ v = .bl true)
abbrev N_law_is_nest : List PySem.Str := ["_law_outwards_here", "_law_thing", "_law_k"]
theorem sc_law_is_nest : FnScope N_law_is_nest ["_law_outwards_here", "_law_thing"] d_law_is_nest.scope := ⟨rfl, rfl, rfl, by decide +kernel, rfl, by decide +kernel, by decide +kernel⟩
theorem c_law_is_nest (T : TX K mg) : Cal P w K mg base 2 "_law_is_nest" spIsNest [] := by
  refine calD T T.f_law_is_nest rfl T.g_law_is_nest (bindsN rfl fun _ _ _ _ _ _ us hl => match us, hl with | [_, _], _ => rfl) sc_law_is_nest (fun _ => rfl) fun cdv A outer s0 H Q E f g hr hp k => ?_
  obtain ⟨d, l, o, xs⟩ := g
  obtain ⟨ho, ok, sk, hl, hn⟩ := hp
  have h12 := hn.l12 ok
  refine ⟨_, (pss_cons (ps_if (PW.pt (pw_or (pt_not (pt_val (pe_c (c_law_unlike T) hr (by decide) rfl (pa_cons (pv 1) (pa_cons (pe_callTy (call_listD rfl) rfl T.n_list b_list (pa_cons (pv 0) pa_nil)) pa_nil))))) (pw_or1 (pt_cmpR (op_eqDK K rfl hr.units) (pv 1) (pe_lst pa_nil) (nomark _))))) (pss_one (ps_ret pe_bl)) pss_nil)
    (pss_one (ps_ret (pe_cmpR (op_eqDK K rfl hr.units) (pe_lc (own := [("_law_k", 2)]) rfl sc_law_is_nest.nd (pi_range1 rfl T.n_range (pa_cons (pe_op op_sub (pe_callB (call_len_seq) rfl T.n_len b_len (pa_cons (pv 1) pa_nil)) pe_int) pa_nil)) (blkOk_by (own := [("_law_k", 2)]) (N := N_law_is_nest) (sc := d_law_is_nest.scope) (by decide +kernel)) (fun _ _ _ _ _ => (pg_name (i := 2) sc_law_is_nest.nd rfl (Or.inl rfl))) (fun _ _ _ _ _ => (pts_one (pt_cmpR (op_notInK K rfl) (pe_ix (ix_listK K rfl) (pv 1) (pe_op op_add (pv 2) pe_int) (fun _ _ => rfl)) (pe_dget (hu_of hr) (pv 0) (pe_ix (ix_listK K rfl) (pv 1) (pv 2) (fun _ _ => rfl)) (fun _ _ => rfl)) rfl))) (fun _ _ _ _ _ => (pv 2))) (pe_lst pa_nil) (nomark _))))), ?_⟩
  obtain ⟨kvs, hkv, hkm⟩ := keys_lst ho
  refine ⟨_, rfl, _, rfl, d, _, rfl, hkv, fun kl hkl => ?_⟩
  rw [hkm]
  have e1 := same_new hkl (.lst ((o.map (·.1)).map V.str))
  have i1 : upd H kl (.lst ((o.map (·.1)).map V.str)) kl = _ := upd_same
  refine ⟨(l, kl, xs, o.map (·.1)), rfl, ⟨e1 _ _ hl, i1, hn.nd, hn.sub, h12⟩, fun v H2 hv => ?_⟩
  obtain ⟨e2, rfl⟩ := hv
  have e02 : Same H H2 := fun b u e => e2 _ _ (e1 _ _ e)
  refine ⟨_, rfl, iteF ?_⟩
  refine ⟨_, rfl, small 0 (by decide), fun q hq => ?_⟩
  have e3 := same_new hq (.lst [])
  refine ⟨_, _, dp_strs (e3 _ _ (e02 _ _ hl)), dp_nil upd_same, sh_strs (fun x hx => sk x (hn.sub x hx)), sOk_nil, false, ?_, iteF ?_⟩
  · rw [eqv_nil]
    cases hx : xs with
    | nil => exact absurd hx hn.ne
    | cons _ _ => rfl
  have e03 : Same H (upd H2 q (.lst [])) := fun b u e => e3 _ _ (e02 _ _ e)
  generalize upd H2 q (.lst []) = H3 at e03
  have hl3 := e03 _ _ hl
  have hpos : 0 < xs.length := List.length_pos_iff.mpr hn.ne
  refine ⟨_, rfl, l, _, rfl, .inl (SqL.of hl3), _, _, rfl, rfl, _, rfl, ?_, ?_, fun D hD => ?_⟩
  · rw [List.length_map]
    omega
  · rw [List.length_map]
    omega
  have et : ((((xs.map V.str).length : Nat) : Int) - 1).toNat = xs.length - 1 := by
    rw [List.length_map]
    omega
  rw [et]
  refine lc_pure (J := Itr 0 (xs.length - 1)) (l := List.range (xs.length - 1)) (fun i => V.int (i : Nat)) (fun _ => none) (wr _) (fun _ _ => trivial) (by rw [List.length_range]; omega) hD ?_ ?_
  · intro i H' hi hs Qy Qn y n
    have hi' : i < xs.length - 1 := List.mem_range.mp hi
    have hx : xs[i]? = some (xs[i]'(by omega)) := List.getElem?_eq_getElem _
    have hy : xs[i + 1]? = some (xs[i + 1]'(by omega)) := List.getElem?_eq_getElem _
    have hgo := hn.go i _ _ hx hy
    generalize xs[i]'(by omega) = x at hx hgo
    generalize xs[i + 1]'(by omega) = y' at hy hgo
    have h0 : Same H H' := fun b u e => hs _ _ (e03 _ _ e)
    have hxm := hn.sub x (List.mem_of_getElem? hx)
    obtain ⟨ys, hys⟩ := KM.look_mem hxm
    obtain ⟨lo, hlo, hlo2⟩ := dout (ho.same h0) hys
    have hyy : y' ∈ ys := by
      unfold outT at hgo
      rw [hys] at hgo
      exact hgo
    have hl' := h0 _ _ hl
    refine ⟨rfl, _, rfl, _, rfl, _, _, rfl, rfl, l, _, ((i : Nat) : Int) + 1, .str y', rfl, rfl, SqL.of hl', ?_, _, rfl, _, rfl, _, rfl, l, _, _, .str x, rfl, rfl, SqL.of hl', ?_, d, _, rfl, hlo, lo, _, rfl, .inl (SqL.of hlo2), rfl, flat_strs _, _, rfl, ?_⟩
    · exact atI_nat (j := i + 1) (by rw [List.getElem?_map, hy]; rfl)
    · exact atI_nat (j := i) (by rw [List.getElem?_map, hx]; rfl)
    · rw [if_pos rfl, inV_str, decide_eq_true hyy]
      exact iteF (n _ rfl fun _ _ h => h)
  intro H4 hs hD4
  rw [fm_none] at hD4
  refine ⟨small 0 (by decide), fun q2 hq2 => ?_⟩
  have e5 := same_new hq2 (.lst [])
  refine ⟨_, _, dp_nil (e5 _ _ hD4), dp_nil upd_same, sOk_nil, sOk_nil, k _ _ ⟨fun b u e => e5 _ _ (hs _ _ (e03 _ _ e)), ?_⟩⟩
  rw [eqv_nil]
  rfl
def spNestsOf : Sp := SpG (G := Addr × Addr × List (Str × List Str) × List Addr × List (List Str)) (fun (d, l, _, _, _) => [.ref d, .ref l])
  (fun (d, l, o, as, nn) H => OutAt H d o ∧ TabOk o ∧ (∀ x ∈ o.map (·.1), SOk x) ∧ H l = some (.lst (as.map V.ref)) ∧ Paired (fun a n => H a = some (.lst (n.map V.str))) as nn ∧ (∀ n ∈ nn, NestOk o n) ∧ nn.flatten.Perm (o.map (·.1)) ∧ nn.length ≤ 12) (fun _ H v H' => Same H H' ∧ v = .bl true)
abbrev N_law_nests_of : List PySem.Str := ["_law_outwards_here", "_law_thing", "_law_every", "_law_nest"]
theorem sc_law_nests_of : FnScope N_law_nests_of ["_law_outwards_here", "_law_thing"] d_law_nests_of.scope := ⟨rfl, rfl, rfl, by decide +kernel, rfl, by decide +kernel, by decide +kernel⟩
theorem c_law_nests_of (T : TX K mg) : Cal P w K mg base 3 "_law_nests_of" spNestsOf [] := by
  refine calD T T.f_law_nests_of rfl T.g_law_nests_of (bindsN rfl fun _ _ _ _ _ _ us hl => match us, hl with | [_, _], _ => rfl) sc_law_nests_of (fun _ => rfl) fun cdv A outer s0 H Q E f g hr hp k => ?_
  obtain ⟨d, l, o, as, nn⟩ := g
  obtain ⟨ho, ok, sk, hl, hps, hn, hpm, h12⟩ := hp
  have hlen : as.length = nn.length := Paired.length hps
  refine ⟨_, (pss_cons (ps_if (pt_not (pt_val (pe_callB (isiK K rfl) rfl T.n_isinstance b_isinstance (pa_cons (pv 1) (pa_cons (pe_bltn (v := .ty "list") rfl T.n_list b_list rfl) pa_nil))))) (pss_one (ps_ret pe_bl)) pss_nil)
    (pss_cons (ps_if (pt_cmpR (op_neDK K rfl hr.units) (pe_lc (own := [("_law_nest", 3)]) rfl sc_law_nests_of.nd (pi_listK K rfl (pv 1)) (blkOk_by (own := [("_law_nest", 3)]) (N := N_law_nests_of) (sc := d_law_nests_of.scope) (by decide +kernel)) (fun _ _ _ _ _ => (pg_name (i := 3) sc_law_nests_of.nd rfl (Or.inl rfl))) (fun _ _ _ _ _ => (pts_one (pt_not (pt_val (pe_c (c_law_is_nest T) hr (by decide) rfl (pa_cons (pv 0) (pa_cons (pv 3) pa_nil))))))) (fun _ _ _ _ _ => (pv 3))) (pe_lst pa_nil) (nomark _)) (pss_one (ps_ret pe_bl)) pss_nil)
    (pss_cons (ps_set (i := 2) sc_law_nests_of.nd rfl (Or.inl rfl) (pe_lst pa_nil))
    (pss_cons (ps_for PassesOwn.never rfl (pi_listK K rfl (pv 1)) (pg_name (i := 3) sc_law_nests_of.nd rfl (Or.inl rfl)) (pss_one (ps_expr (pe_bm PySem.F.plainAttrs_list PySem.F.slot_list_extend PySem.F.type_list_extend mt_extend (pv 2) (pa_cons (pv 3) pa_nil)))))
    (pss_one (ps_ret (pe_cmpR (op_eqDK K rfl hr.units) (pe_callB (cr_sortedS) rfl T.n_sorted b_sorted (pa_cons (pv 2) pa_nil)) (pe_callB (cr_sortedS) rfl T.n_sorted b_sorted (pa_cons (pe_callTy (call_listD rfl) rfl T.n_list b_list (pa_cons (pv 0) pa_nil)) pa_nil)) (nomark _)))))))), ?_⟩
  refine ⟨_, rfl, _, _, _, _, true, rfl, .ty _, ty_lst hl, kit_ty (by decide +kernel), _, rfl, iteF ?_⟩
  have hz : (as.zip nn).map (fun z => z.1) = as := by
    rw [List.map_fst_zip]
    exact Nat.le_of_eq hlen
  have hz2 : (as.zip nn).map (fun z => z.2) = nn := by
    rw [List.map_snd_zip]
    exact Nat.le_of_eq hlen.symm
  have hw : as.map V.ref = (as.zip nn).map fun z => V.ref z.1 := by
    conv => lhs; rw [← hz]
    rw [List.map_map]
    rfl
  rw [hw] at hl
  have zl : (as.zip nn).length ≤ 12 := by
    rw [List.length_zip]
    omega
  refine ⟨_, rfl, l, rfl, ⟨_, SqL.of hl⟩, fun D hD => ?_⟩
  refine lc_pure (J := Itl _ l) (l := as.zip nn) (fun z => V.ref z.1) (fun _ => none) (wl (as.zip nn) fun z => V.ref z.1) (fun _ e => sg hl e) (by omega) hD ?_ ?_
  · rintro ⟨a, n⟩ H' hx hs Qy Qn y nn'
    have ha : H a = some (.lst (n.map V.str)) := paired_zip (F := fun a n => H a = some (.lst (n.map V.str))) hps hx
    have hnn : n ∈ nn := (List.of_mem_zip hx).2
    refine ⟨rfl, _, rfl, _, rfl, (d, a, o, n), rfl, ⟨ho.same hs, ok, sk, hs _ _ ha, hn n hnn⟩, fun v H3 hv => ?_⟩
    obtain ⟨e3, rfl⟩ := hv
    exact ⟨_, rfl, iteF (nn' _ rfl e3)⟩
  intro H2 hs hD2
  rw [fm_none] at hD2
  refine ⟨small 0 (by decide), fun q hq => ?_⟩
  have e3 := same_new hq (.lst [])
  refine ⟨_, _, dp_nil (e3 _ _ hD2), dp_nil upd_same, sOk_nil, sOk_nil, false, by rw [eqv_nil]; rfl, iteF ?_⟩
  have e03 : Same H (upd H2 q (.lst [])) := fun b u e => e3 _ _ (hs _ _ e)
  generalize upd H2 q (.lst []) = H3 at e03
  -- all of them
  refine ⟨small 0 (by decide), fun F hF => ?_⟩
  have e4 := same_new hF (.lst [])
  have i4 : upd H3 F (.lst []) F = some (.lst []) := upd_same
  have F0 : H F = none := Dom.of e03 F hF
  generalize upd H3 F (.lst []) = H4 at e4 i4
  have oldF : ∀ b u, H b = some u → b ∉ [F] := fun b u e z => by
    rw [List.mem_singleton.mp z, F0] at e
    cases e
  have keep : ∀ H', Chg [F] H4 H' → Same H H' := fun H' c b u e => c _ _ (oldF _ _ e) (e4 _ _ (e03 _ _ e))
  have flen : nn.flatten.length = o.length := by
    rw [hpm.length_eq, List.length_map]
  have l12 := ok.l12
  refine ⟨_, rfl, l, rfl, ⟨_, SqL.of (e4 _ _ (e03 _ _ hl))⟩, ?_⟩
  refine for_it (wl (K := K) (a := l) (as.zip nn) fun z => V.ref z.1) (fun i σ H' => Chg [F] H4 H' ∧ Sl [3] ((L2.start N_law_nests_of [V.ref d, .ref l]).set 2 (some (.ref F))) σ ∧ H' F = some (.lst ((nn.take i).flatten.map V.str)))
    ⟨Chg.refl, Sl.refl, i4⟩ (fun i σ H' _ h => SqL.of (keep _ h.1 _ _ hl)) ?_ ?_
  · rintro i v σ H5 H6 hi ⟨hc, hσ, hFl⟩ ⟨hH, ⟨a, n⟩, hz6, rfl⟩
    subst hH
    have hni : nn[i]? = some n := by
      conv => lhs; rw [← hz2]
      rw [List.getElem?_map, hz6]
      rfl
    have ha : H6 a = some (.lst (n.map V.str)) := keep _ hc _ _ (paired_zip (F := fun a n => H a = some (.lst (n.map V.str))) hps (List.mem_of_getElem? hz6))
    have hfl : (nn.take (i + 1)).flatten = (nn.take i).flatten ++ n := by
      rw [take_snoc hni, List.flatten_append]
      simp
    have hle : ((nn.take i).flatten ++ n).length ≤ 12 := by
      rw [← hfl]
      have : (nn.take (i + 1)).flatten.length ≤ nn.flatten.length := by
        conv => rhs; rw [← List.take_append_drop (i + 1) nn, List.flatten_append, List.length_append]
        omega
      omega
    rw [List.length_append] at hle
    refine ⟨_, (hσ.set (i := 3) (by decide)).g 2 (by decide) rfl, .inl ⟨rfl, _, SqL.of hFl⟩, _, hσ.s, F, a, _, _, rfl, rfl, hFl, ha, ?_, ?_⟩
    · rw [List.length_map, List.length_map]
      exact small _ (by omega)
    · refine ⟨Chg.upd hc (List.mem_singleton_self F), hσ.set (by decide), ?_⟩
      rw [upd_same, hfl, List.map_append]
  rintro σ H5 ⟨hc, hσ, hFl⟩
  rw [List.take_of_length_le (by rw [List.length_zip]; omega)] at hFl
  have h05 := keep _ hc
  refine ⟨_, hσ.g 2 (by decide) rfl, F, _, rfl, SqL.of hFl, by omega, fun ys p1 hpy hsy hp1 => ?_⟩
  have e6 := same_new hp1 (.lst (ys.map V.str))
  obtain ⟨kvs, hkv, hkm⟩ := keys_lst (ho.same fun b u e => e6 _ _ (h05 _ _ e))
  refine ⟨_, hσ.g 0 (by decide) rfl, d, _, rfl, hkv, fun kl hkl => ?_⟩
  rw [hkm]
  have e7 := same_new hkl (.lst ((o.map (·.1)).map V.str))
  refine ⟨kl, _, rfl, SqL.of upd_same, ?_, fun zs p2 hpz hsz hp2 => ?_⟩
  · rw [List.length_map]
    omega
  have e8 := same_new hp2 (.lst (zs.map V.str))
  have ez : ys = zs := sorted_unique hsy hsz (hpy.trans (hpm.trans hpz.symm))
  have hsk : ∀ x ∈ zs, SOk x := fun x hx => sk x (hpz.mem_iff.mp hx)
  refine ⟨_, _, dp_strs (e8 _ _ (e7 _ _ upd_same)), dp_strs upd_same, sh_strs (by rw [ez]; exact hsk), sh_strs hsk, k _ _ ⟨fun b u e => e8 _ _ (e7 _ _ (e6 _ _ (h05 _ _ e))), ?_⟩⟩
  rw [ez, eqv_self_strs]
def spNumbers : Sp := SpG (G := Addr × Addr × List Str × (Str → Int)) (fun (kn, d, _, _) => [.ref kn, .ref d, .int 0]) (fun (kn, d, ks, f) H => H kn = some (.lst (ks.map V.str)) ∧ H d = some (.dK (dmap V.int (fmap ks f))) ∧ (∀ x ∈ ks, 0 ≤ f x) ∧ ks.length ≤ 12) (fun _ H v H' => Same H H' ∧ v = .bl true)
abbrev N_law_numbers : List PySem.Str := ["_law_known", "_law_thing", "_law_low", "_law_name"]
theorem sc_law_numbers : FnScope N_law_numbers ["_law_known", "_law_thing", "_law_low"] d_law_numbers.scope := ⟨rfl, rfl, rfl, by decide +kernel, rfl, by decide +kernel, by decide +kernel⟩
theorem c_law_numbers (T : TX K mg) : Cal P w K mg base 2 "_law_numbers" spNumbers [] := by
  refine calD T T.f_law_numbers rfl T.g_law_numbers (bindsN rfl fun _ _ _ _ _ _ us hl => match us, hl with | [_, _, _], _ => rfl) sc_law_numbers (fun _ => rfl) fun cdv A outer s0 H Q E f g hr hp k => ?_
  obtain ⟨kn, d, ks, f⟩ := g
  obtain ⟨hkn, hd, hf, h12⟩ := hp
  refine ⟨_, (pss_cons (ps_if (PW.pt (pw_or (pt_not (pt_val (pe_callB (isiK K rfl) rfl T.n_isinstance b_isinstance (pa_cons (pv 1) (pa_cons (pe_bltn (v := .ty "dict") rfl T.n_dict b_dict rfl) pa_nil))))) (pw_or1 (pt_cmpR (op_ne) (pe_callB (call_lenD) rfl T.n_len b_len (pa_cons (pv 1) pa_nil)) (pe_callB (call_len_seq) rfl T.n_len b_len (pa_cons (pv 0) pa_nil)) (nomark _))))) (pss_one (ps_ret pe_bl)) pss_nil)
    (pss_one (ps_ret (pe_cmpR (op_eqDK K rfl hr.units) (pe_lc (own := [("_law_name", 3)]) rfl sc_law_numbers.nd (pi_listK K rfl (pv 0)) (blkOk_by (own := [("_law_name", 3)]) (N := N_law_numbers) (sc := d_law_numbers.scope) (by decide +kernel)) (fun _ _ _ _ _ => (pg_name (i := 3) sc_law_numbers.nd rfl (Or.inl rfl))) (fun _ _ _ _ _ => (pts_one (PW.pt (pw_or (pt_cmp (pc_dnotin (hu_of hr) (pv 3) (pv 1)) rfl) (pw_or1 (pt_not (pt_val (pe_c (c_law_whole T) hr (by decide) rfl (pa_cons (pe_dget (hu_of hr) (pv 1) (pv 3) (fun _ _ => rfl)) (pa_cons (pv 2) pa_nil)))))))))) (fun _ _ _ _ _ => (pv 3))) (pe_lst pa_nil) (nomark _))))), ?_⟩
  refine ⟨_, rfl, _, _, _, _, true, rfl, .ty _, ty_dK hd, kit_ty (by decide +kernel), _, rfl, iteF ?_⟩
  refine ⟨_, rfl, d, _, rfl, hd, _, rfl, kn, _, rfl, .inl (SqL.of hkn), rfl, false, ?_, iteF ?_⟩
  · refine congrArg V.bl ?_
    unfold dmap fmap
    rw [List.length_map, List.length_map, List.length_map, decide_eq_true rfl]
    rfl
  refine ⟨_, rfl, kn, rfl, ⟨_, SqL.of hkn⟩, fun D hD => ?_⟩
  refine lc_pure (J := Itl _ kn) (l := ks) V.str (fun _ => none) (wl ks V.str) (fun _ e => sg hkn e) (by omega) hD ?_ ?_
  · intro x H' hx hs Qy Qn y n
    have hd' := hs _ _ hd
    have hlk : KM.look (fmap ks f) x = some (f x) := look_fmap hx
    refine ⟨rfl, _, rfl, _, rfl, d, _, rfl, dget hd' hlk, _, rfl, iteF ?_⟩
    refine ⟨_, rfl, _, rfl, d, _, rfl, dget hd' hlk, _, rfl, (f x, 0), rfl, trivial, fun v H3 hv => ?_⟩
    obtain ⟨e3, rfl⟩ := hv
    rw [decide_eq_true (hf x hx)]
    exact ⟨_, rfl, iteF (n _ rfl fun _ _ h => by rw [e3]; exact h)⟩
  intro H2 hs hD2
  rw [fm_none] at hD2
  refine ⟨small 0 (by decide), fun q hq => ?_⟩
  have e3 := same_new hq (.lst [])
  refine ⟨_, _, dp_nil (e3 _ _ hD2), dp_nil upd_same, sOk_nil, sOk_nil, k _ _ ⟨fun b u e => e3 _ _ (hs _ _ e), ?_⟩⟩
  rw [eqv_nil]
  rfl
end
end BX
end
section
set_option Elab.async false
set_option linter.all false
set_option maxRecDepth 100000
set_option maxHeartbeats 4000000
namespace BX
open PySem PySem.Spec PyProof.Rows L2
open C8 (Cal Mak Met pe_c pe_mk pe_mt pe_mt0 pe_gc)
theorem cut_last (xs : List V) : cutV xs none (some (-1)) = xs.dropLast := by
  unfold cutV
  rw [HT.sIx_none, List.drop_zero, List.dropLast_eq_take]
  have e : HT.sIx xs.length xs.length (some (-1)) = xs.length - 1 := by
    show (if (-1 : Int) < 0 then ((-1 : Int) + (xs.length : Int)).toNat else min (-1 : Int).toNat xs.length) = _
    rw [if_pos (by decide)]
    omega
  rw [e]
  rfl
/-- the conditions by which prices show that nests cost least -/
structure ShownOk (o : List (Str × List Str)) (cost : Str → Int) (r : Res) : Prop where
  nests : ∀ n ∈ r.nests, NestOk o n
  parts : r.nests.flatten.Perm (o.map (·.1))
  l12 : r.nests.length ≤ 12
  wi0 : ∀ x ∈ o.map (·.1), 0 ≤ r.wi x
  wo0 : ∀ x ∈ o.map (·.1), 0 ≤ r.wo x
  edge : ∀ x ∈ o.map (·.1), ∀ y ∈ outT o x, cost x ≤ r.wi x + r.wo y
  sum : ((o.map (·.1)).map fun x => r.wi x + r.wo x).sum = (r.nests.map fun n => (n.dropLast.map cost).sum).sum
section
variable {P : Program} {w : World} {K : PySem.W.Frag} {mg : Str → Option Value} {base : Heap}
/-- what is read of the told -/
structure ResR (H : Hp) (l a b : Addr) (as : List Addr) (names : List Str) (r : Res) : Prop where
  ls : H l = some (.lst (as.map V.ref))
  ns : Paired (fun q n => H q = some (.lst (n.map V.str))) as r.nests
  wa : H a = some (.dK (dmap V.int (fmap names r.wi)))
  wb : H b = some (.dK (dmap V.int (fmap names r.wo)))
theorem ResR.same {H H' : Hp} {l a b : Addr} {as : List Addr} {names : List Str} {r : Res} (e : Same H H') (h : ResR H l a b as names r) : ResR H' l a b as names r :=
  ⟨e _ _ h.ls, Paired.mapP h.ns fun q n z => e _ _ z, e _ _ h.wa, e _ _ h.wb⟩
def spShown : Sp := SpG (G := Addr × Addr × Addr × Addr × Addr × List (Str × List Str) × List (Str × Int) × (Str → Int) × List Addr × Res) (fun (d, dc, l, a, b, _, _, _, _, _) => [.ref d, .ref dc, .ref l, .ref a, .ref b])
  (fun (d, dc, l, a, b, o, cs, cost, as, r) H => OutAt H d o ∧ TabOk o ∧ (∀ x ∈ o.map (·.1), SOk x) ∧ H dc = some (.dK (dmap V.int cs)) ∧ (∀ x ∈ o.map (·.1), KM.look cs x = some (cost x)) ∧ ResR H l a b as (o.map (·.1)) r ∧ ShownOk o cost r) (fun _ H v H' => Same H H' ∧ v = .bl true)
abbrev N_law_shown : List PySem.Str := ["_law_outwards_here", "_law_costs_here", "_law_nests", "_law_within", "_law_without", "_law_known", "_law_name", "_law_saved", "_law_other", "_law_nest"]
theorem sc_law_shown : FnScope N_law_shown ["_law_outwards_here", "_law_costs_here", "_law_nests", "_law_within", "_law_without"] d_law_shown.scope := ⟨rfl, rfl, rfl, by decide +kernel, rfl, by decide +kernel, by decide +kernel⟩
theorem c_law_shown (T : TX K mg) : Cal P w K mg base 4 "_law_shown" spShown [] := by
  refine calD T T.f_law_shown rfl T.g_law_shown (bindsN rfl fun _ _ _ _ _ _ us hl => match us, hl with | [_, _, _, _, _], _ => rfl) sc_law_shown (fun _ => rfl) fun cdv A outer s0 H Q E f g hr hp k => ?_
  obtain ⟨d, dc, l, a, b, o, cs, cost, as, r⟩ := g
  obtain ⟨ho, ok, sk, hdc, hcs, hres, hsh⟩ := hp
  have k12 : (o.map (·.1)).length ≤ 12 := by
    rw [List.length_map]
    exact ok.l12
  refine ⟨_, (pss_cons (ps_set (i := 5) sc_law_shown.nd rfl (Or.inl rfl) (pe_callTy (call_listD rfl) rfl T.n_list b_list (pa_cons (pv 0) pa_nil)))
    (pss_cons (ps_if (pt_not (pt_val (pe_c (c_law_nests_of T) hr (by decide) rfl (pa_cons (pv 0) (pa_cons (pv 2) pa_nil))))) (pss_one (ps_ret pe_bl)) pss_nil)
    (pss_cons (ps_if (PW.pt (pw_or (pt_not (pt_val (pe_c (c_law_numbers T) hr (by decide) rfl (pa_cons (pv 5) (pa_cons (pv 3) (pa_cons pe_int pa_nil)))))) (pw_or1 (pt_not (pt_val (pe_c (c_law_numbers T) hr (by decide) rfl (pa_cons (pv 5) (pa_cons (pv 4) (pa_cons pe_int pa_nil))))))))) (pss_one (ps_ret pe_bl)) pss_nil)
    (pss_cons (ps_for PassesOwn.never rfl (pi_listK K rfl (pv 5)) (pg_name (i := 6) sc_law_shown.nd rfl (Or.inr rfl)) (pss_one (ps_if (pt_cmpR (op_neDK K rfl hr.units) (pe_lc (own := [("_law_other", 8)]) rfl sc_law_shown.nd (pi_listK K rfl (pe_dget (hu_of hr) (pv 0) (pv 6) (fun _ _ => rfl))) (blkOk_by (own := [("_law_other", 8)]) (N := N_law_shown) (sc := d_law_shown.scope) (by decide +kernel)) (fun _ _ _ _ _ => (pg_name (i := 8) sc_law_shown.nd rfl (Or.inl rfl))) (fun _ _ _ _ _ => (pts_one (pt_cmpR (op_lt) (pe_op op_add (pe_dget (hu_of hr) (pv 3) (pv 6) (fun _ _ => rfl)) (pe_dget (hu_of hr) (pv 4) (pv 8) (fun _ _ => rfl))) (pe_dget (hu_of hr) (pv 1) (pv 6) (fun _ _ => rfl)) (nomark _)))) (fun _ _ _ _ _ => (pv 8))) (pe_lst pa_nil) (nomark _)) (pss_one (ps_ret pe_bl)) pss_nil)))
    (pss_cons (ps_set (i := 7) sc_law_shown.nd rfl (Or.inl rfl) (pe_callB (sumK K rfl rfl) rfl T.n_sum b_sum (pa_cons (pe_lc (own := [("_law_nest", 9)]) rfl sc_law_shown.nd (pi_listK K rfl (pv 2)) (blkOk_by (own := [("_law_nest", 9)]) (N := N_law_shown) (sc := d_law_shown.scope) (by decide +kernel)) (fun _ _ _ _ _ => (pg_name (i := 9) sc_law_shown.nd rfl (Or.inl rfl))) (fun _ _ _ _ _ => pts_nil) (fun _ _ _ _ _ => (pe_callB (sumK K rfl rfl) rfl T.n_sum b_sum (pa_cons (pe_lc (own := [("_law_name", 6)]) rfl sc_law_shown.nd (pi_listK K rfl (pe_slice (sl_listK K rfl) (pv 9) po_none (po_some (pe_un un_neg pe_int)))) (blkOk_by (own := [("_law_name", 6)]) (N := N_law_shown) (sc := { kind := .function, names := [(".0", .local), ("_law_nest", .local), ("sum", .globalImplicit), ("_law_costs_here", .cell)], isGenerator := false, isCoroutine := false }) (by decide +kernel)) (fun _ _ _ _ _ => (pg_name (i := 6) sc_law_shown.nd rfl (Or.inl rfl))) (fun _ _ _ _ _ => pts_nil) (fun _ _ _ _ _ => (pe_dget (hu_of hr) (pv 1) (pv 6) (fun _ _ => rfl)))) pa_nil)))) pa_nil)))
    (pss_one (ps_ret (pe_cmpR (op_eq) (pe_callB (sumK K rfl rfl) rfl T.n_sum b_sum (pa_cons (pe_lc (own := [("_law_name", 6)]) rfl sc_law_shown.nd (pi_listK K rfl (pv 5)) (blkOk_by (own := [("_law_name", 6)]) (N := N_law_shown) (sc := d_law_shown.scope) (by decide +kernel)) (fun _ _ _ _ _ => (pg_name (i := 6) sc_law_shown.nd rfl (Or.inl rfl))) (fun _ _ _ _ _ => pts_nil) (fun _ _ _ _ _ => (pe_op op_add (pe_dget (hu_of hr) (pv 3) (pv 6) (fun _ _ => rfl)) (pe_dget (hu_of hr) (pv 4) (pv 6) (fun _ _ => rfl))))) pa_nil)) (pv 7) (nomark _))))))))), ?_⟩
  obtain ⟨kvs, hkv, hkm⟩ := keys_lst ho
  refine ⟨_, rfl, d, _, rfl, hkv, fun kl hkl => ?_⟩
  rw [hkm]
  have e1 := same_new hkl (.lst ((o.map (·.1)).map V.str))
  have i1 : upd H kl (.lst ((o.map (·.1)).map V.str)) kl = _ := upd_same
  let σk : L2.St := (L2.start N_law_shown [V.ref d, .ref dc, .ref l, .ref a, .ref b]).set 5 (some (.ref kl))
  have h1 := hres.same e1
  refine ⟨_, rfl, _, rfl, (d, l, o, as, r.nests), rfl, ⟨ho.same e1, ok, sk, h1.ls, h1.ns, hsh.nests, hsh.parts, hsh.l12⟩, fun v H2 hv => ?_⟩
  obtain ⟨e2, rfl⟩ := hv
  refine ⟨_, rfl, iteF ?_⟩
  have i2 := e2 _ _ i1
  have h2 := h1.same e2
  refine ⟨_, rfl, _, rfl, (kl, a, o.map (·.1), r.wi), rfl, ⟨i2, h2.wa, hsh.wi0, k12⟩, fun v H3 hv => ?_⟩
  obtain ⟨e3, rfl⟩ := hv
  have i3 := e3 _ _ i2
  have h3 := h2.same e3
  refine ⟨_, rfl, iteF ?_⟩
  refine ⟨_, rfl, _, rfl, (kl, b, o.map (·.1), r.wo), rfl, ⟨i3, h3.wb, hsh.wo0, k12⟩, fun v H4 hv => ?_⟩
  obtain ⟨e4, rfl⟩ := hv
  refine ⟨_, rfl, iteF ?_⟩
  have i4 := e4 _ _ i3
  have h4 := h3.same e4
  have e04 : Same H H4 := fun x u e => e4 _ _ (e3 _ _ (e2 _ _ (e1 _ _ e)))
  -- the edges
  refine ⟨_, rfl, kl, rfl, ⟨_, SqL.of i4⟩, ?_⟩
  refine for_it (wl (K := K) (a := kl) (o.map (·.1)) V.str) (fun i σ H' => Same H4 H' ∧ Sl [6] σk σ) ⟨fun _ _ h => h, Sl.refl⟩ (fun i σ H' _ h => SqL.of (h.1 _ _ i4)) ?_ ?_
  · rintro i v σ H5 H6 hi ⟨hs, hσ⟩ ⟨hH, x, hx, rfl⟩
    subst hH
    have hxm : x ∈ o.map (·.1) := List.mem_of_getElem? hx
    have hσ2 : Sl [6] σk (σ.set 6 (some (.str x))) := hσ.set (by decide)
    have s6 : (σ.set 6 (some (.str x)))[6]? = some (some (.str x)) := hσ.s
    have e06 : Same H H6 := fun y u e => hs _ _ (e04 _ _ e)
    obtain ⟨ys, hys⟩ := KM.look_mem hxm
    have hoy : outT o x = ys := by
      unfold outT
      rw [hys]
      rfl
    obtain ⟨lo, hlo, hlo2⟩ := dout (ho.same e06) hys
    have h6 := h4.same hs
    refine ⟨_, hσ2.g 0 (by decide) rfl, _, s6, d, _, rfl, hlo, lo, rfl, ⟨_, SqL.of hlo2⟩, fun D hD => ?_⟩
    have ho12 := ok.o12 x ys hys
    generalize hσe : σ.set 6 (some (.str x)) = σ6 at hσ2 s6
    refine lc_pure (J := Itl _ lo) (l := ys) V.str (fun _ => none) (wl ys V.str) (fun _ e => sg hlo2 e) (by omega) hD ?_ ?_
    · intro y H' hy hs' Qy Qn yy nn
      have hw : Sl [6, 8] σk ((wipe σ6 [8]).set 8 (some (.str y))) := Sl.w1 (js := [6, 8]) ⟨hσ2.len, fun j hj => hσ2.at' j fun q => hj (by rw [List.mem_singleton.mp q]; simp)⟩ (by decide)
      have hs8 : Sl [6, 8] σk σ6 := ⟨hσ2.len, fun j hj => hσ2.at' j fun q => hj (by rw [List.mem_singleton.mp q]; simp)⟩
      have w6 : ((wipe σ6 [8]).set 8 (some (.str y)))[6]? = some (some (.str x)) := by
        show ((σ6.set 8 none).set 8 (some (V.str y)))[6]? = _
        rw [List.set_set, List.getElem?_set_ne (by decide)]
        exact s6
      have hym : y ∈ o.map (·.1) := ok.cl x ys hys y hy
      have h7 := h6.same hs'
      refine ⟨wipe1, _, hw.g 3 (by decide) rfl, _, w6, a, _, rfl, dget h7.wa (look_fmap hxm), _, hw.g 4 (by decide) rfl, _, hs8.s1, b, _, rfl, dget h7.wb (look_fmap hym), _, _, rfl, rfl, _, hw.g 1 (by decide) rfl, _, w6, dc, _, rfl, dget (hs' _ _ (e06 _ _ hdc)) (hcs x hxm), _, _, rfl, rfl, _, rfl, ?_⟩
      have hed := hsh.edge x hxm y (by rw [hoy]; exact hy)
      rw [decide_eq_false (show ¬ r.wi x + r.wo y < cost x by omega)]
      exact iteF (nn _ rfl fun _ _ h => h)
    intro H7 hs7 hD7
    rw [fm_none] at hD7
    refine ⟨small 0 (by decide), fun q hq => ?_⟩
    have e8 := same_new hq (.lst [])
    refine ⟨_, _, dp_nil (e8 _ _ hD7), dp_nil upd_same, sOk_nil, sOk_nil, false, by rw [eqv_nil]; rfl, iteF ⟨fun y u e => e8 _ _ (hs7 _ _ (hs _ _ e)), ?_⟩⟩
    exact hσ2
  rintro σ5 H5 ⟨hs5, hσ5⟩
  have e05 : Same H H5 := fun y u e => hs5 _ _ (e04 _ _ e)
  have h5 := hres.same e05
  have i5 := hs5 _ _ i4
  -- saved
  have hlen : as.length = r.nests.length := Paired.length h5.ns
  have hz : (as.zip r.nests).map (fun z => z.1) = as := by
    rw [List.map_fst_zip]
    exact Nat.le_of_eq hlen
  have hz2 : (as.zip r.nests).map (fun z => z.2) = r.nests := by
    rw [List.map_snd_zip]
    exact Nat.le_of_eq hlen.symm
  have hw : as.map V.ref = (as.zip r.nests).map fun z => V.ref z.1 := by
    conv => lhs; rw [← hz]
    rw [List.map_map]
    rfl
  have hls := h5.ls
  rw [hw] at hls
  have l12 := hsh.l12
  refine ⟨_, hσ5.g 2 (by decide) rfl, l, rfl, ⟨_, SqL.of hls⟩, fun D hD => ?_⟩
  refine lc_map (J := Itl _ l) (l := as.zip r.nests) (fun z => V.ref z.1) (fun z => V.int (z.2.dropLast.map cost).sum) (wl (as.zip r.nests) fun z => V.ref z.1) (fun _ e => sg hls e) (by rw [List.length_zip]; omega) hD ?_ gN ?_
  · rintro ⟨q, n⟩ H' hm hs Qy y
    have hq : H' q = some (.lst (n.map V.str)) := hs _ _ (paired_zip (F := fun a n => H5 a = some (.lst (n.map V.str))) h5.ns hm)
    have hnn := hsh.nests n (List.of_mem_zip hm).2
    have hn12 := hnn.l12 ok
    have hsw : Sl [6, 9] σk ((wipe σ5 [9]).set 9 (some (.ref q))) := Sl.w1 (js := [6, 9]) ⟨hσ5.len, fun j hj => hσ5.at' j fun q => hj (by rw [List.mem_singleton.mp q]; simp)⟩ (by decide)
    have w9 : ((wipe σ5 [9]).set 9 (some (.ref q)))[9]? = some (some (.ref q)) := hσ5.s1
    refine ⟨wipe1, ?_⟩
    refine ⟨_, w9, _, rfl, -1, rfl, q, _, rfl, SqL.of hq, fun c hc => ?_⟩
    rw [cut_last, ← List.map_dropLast]
    have ec := same_new hc (.lst (n.dropLast.map V.str))
    have ic : upd H' c (.lst (n.dropLast.map V.str)) c = _ := upd_same
    refine ⟨c, rfl, ⟨_, SqL.of ic⟩, fun D2 hD2 => ?_⟩
    refine lc_map (J := Itl _ c) (l := n.dropLast) V.str (fun x => V.int (cost x)) (wl n.dropLast V.str) (fun _ e => sg ic e) (by rw [List.length_dropLast]; omega) hD2 ?_ gN ?_
    · intro x H8 hx hs8 Qz z
      have hxm := hnn.sub x (List.dropLast_subset _ hx)
      refine ⟨wipe1, _, (hsw.w1 (i := 6) (by decide)).g 1 (by decide) rfl, _, hsw.s1 (i := 6), dc, _, rfl, dget (hs8 _ _ (ec _ _ (hs _ _ (e05 _ _ hdc)))) (hcs x hxm), z _ fun _ _ h => h⟩
    intro H8 hs8 hD8
    exact ⟨D2, n.dropLast.map cost, rfl, SqL.of (by rw [hD8, List.map_map]; rfl), y _ fun x u e => hs8 _ _ (ec _ _ e)⟩
  intro H6 hs6 hD6
  refine ⟨D, r.nests.map fun n => (n.dropLast.map cost).sum, rfl, SqL.of ?_, ?_⟩
  · rw [hD6, List.map_map]
    conv => rhs; rw [← hz2]
    rw [List.map_map]
    rfl
  have e06 : Same H H6 := fun y u e => hs6 _ _ (e05 _ _ e)
  have i6 := hs6 _ _ i5
  have h6 := hres.same e06
  have hσ7 := hσ5.both 7 (some (.int (r.nests.map fun n => (n.dropLast.map cost).sum).sum))
  refine ⟨_, hσ7.g 5 (by decide) rfl, kl, rfl, ⟨_, SqL.of i6⟩, fun D3 hD3 => ?_⟩
  refine lc_map (J := Itl _ kl) (l := o.map (·.1)) V.str (fun x => V.int (r.wi x + r.wo x)) (wl (o.map (·.1)) V.str) (fun _ e => sg i6 e) (by omega) hD3 ?_ gN ?_
  · intro x H7 hx hs Qy y
    have h7 := h6.same hs
    refine ⟨wipe1, _, (hσ7.w1 (by decide)).g 3 (by decide) rfl, _, hσ7.s1, a, _, rfl, dget h7.wa (look_fmap hx), _, (hσ7.w1 (by decide)).g 4 (by decide) rfl, _, hσ7.s1, b, _, rfl, dget h7.wb (look_fmap hx), _, _, rfl, rfl, y _ fun _ _ h => h⟩
  intro H7 hs7 hD7
  refine ⟨D3, (o.map (·.1)).map fun x => r.wi x + r.wo x, rfl, SqL.of (by rw [hD7, List.map_map, List.map_map, List.map_map]; rfl), _, hσ7.g 7 (by decide) rfl, rfl, k _ _ ⟨fun y u e => hs7 _ _ (e06 _ _ e), congrArg V.bl ?_⟩⟩
  rw [hsh.sum]
  exact decide_eq_true rfl
def spRight : Sp := SpG (G := Addr × Addr × Int × Addr × List Addr × List Row × List (Str × Int) × Addr × Addr × Addr × List Addr × Res) (fun (l, dc, i, t, _) => [.ref l, .ref dc, .int i, .ref t])
  (fun (l, dc, i, t, as, rs, cs, n, a, b, qs, r) H => RowsAt H l as rs ∧ RowsOk rs ∧ 0 ≤ i ∧ H dc = some (.dK (dmap V.int cs)) ∧ CostsOk cs rs ∧ H t = some (.tup [.ref n, .ref a, .ref b]) ∧ ResR H n a b qs (rs.map Row.name) r ∧ ShownOk (outOf i rs) (costOf cs) r) (fun _ H v H' => Same H H' ∧ v = .bl true)
abbrev N_law_right : List PySem.Str := ["_law_rows_here", "_law_costs_here", "_law_spare_here", "_law_found", "_law_outwards_here"]
theorem sc_law_right : FnScope N_law_right ["_law_rows_here", "_law_costs_here", "_law_spare_here", "_law_found"] d_law_right.scope := ⟨rfl, rfl, rfl, by decide +kernel, rfl, by decide +kernel, by decide +kernel⟩
theorem fmap_kV (ks : List Str) (f : Str → Int) : (dmap V.int (fmap ks f)).map (fun kv => kV kv.1) = ks.map V.str := by
  unfold dmap fmap
  rw [List.map_map, List.map_map]
  rfl
theorem costs_look {cs : List (Str × Int)} {rs : List Row} (h : CostsOk cs rs) : ∀ x ∈ rs.map Row.name, KM.look cs x = some (costOf cs x) := fun x hx => by
  obtain ⟨r, hr', e⟩ := List.mem_map.mp hx
  obtain ⟨c, hc, _⟩ := h.all r hr'
  rw [e] at hc
  unfold costOf
  rw [hc]
  rfl
theorem c_law_right (T : TX K mg) : Cal P w K mg base 5 "_law_right" spRight [] := by
  refine calD T T.f_law_right rfl T.g_law_right (bindsN rfl fun _ _ _ _ _ _ us hl => match us, hl with | [_, _, _, _], _ => rfl) sc_law_right (fun _ => rfl) fun cdv A outer s0 H Q E f g hr hp k => ?_
  obtain ⟨l, dc, i, t, as, rs, cs, n, a, b, qs, r⟩ := g
  obtain ⟨hrow, ok, hi0, hdc, cok, ht, hres, hsh⟩ := hp
  refine ⟨_, (pss_cons (ps_if (PW.pt (pw_or (pt_not (pt_val (pe_callB (isiK K rfl) rfl T.n_isinstance b_isinstance (pa_cons (pv 3) (pa_cons (pe_bltn (v := .ty "tuple") rfl T.n_tuple b_tuple rfl) pa_nil))))) (pw_or1 (pt_cmpR (op_ne) (pe_callB (call_len_seq) rfl T.n_len b_len (pa_cons (pv 3) pa_nil)) pe_int (nomark _))))) (pss_one (ps_ret pe_bl)) pss_nil)
    (pss_cons (ps_set (i := 4) sc_law_right.nd rfl (Or.inl rfl) (pe_c (c_law_outwards T) hr (by decide) rfl (pa_cons (pv 0) (pa_cons (pv 2) pa_nil))))
    (pss_cons (ps_if (pt_not (pt_val (pe_c (c_law_shown T) hr (by decide) rfl (pa_cons (pv 4) (pa_cons (pv 1) (pa_cons (pe_ix (ix_tupK K rfl) (pv 3) pe_int (fun _ _ => rfl)) (pa_cons (pe_ix (ix_tupK K rfl) (pv 3) pe_int (fun _ _ => rfl)) (pa_cons (pe_ix (ix_tupK K rfl) (pv 3) pe_int (fun _ _ => rfl)) pa_nil)))))))) (pss_one (ps_ret pe_bl)) pss_nil)
    (pss_one (ps_ret (pe_and (pe_cmpR (op_eqDK K rfl hr.units) (pe_callTy (call_listD rfl) rfl T.n_list b_list (pa_cons (pe_ix (ix_tupK K rfl) (pv 3) pe_int (fun _ _ => rfl)) pa_nil)) (pe_callTy (call_listD rfl) rfl T.n_list b_list (pa_cons (pv 4) pa_nil)) (nomark _)) (pe_one (pe_cmpR (op_eqDK K rfl hr.units) (pe_callTy (call_listD rfl) rfl T.n_list b_list (pa_cons (pe_ix (ix_tupK K rfl) (pv 3) pe_int (fun _ _ => rfl)) pa_nil)) (pe_callTy (call_listD rfl) rfl T.n_list b_list (pa_cons (pv 4) pa_nil)) (nomark _))))))))), ?_⟩
  refine ⟨_, rfl, _, _, _, _, true, rfl, .ty _, ty_tup ht, kit_ty (by decide +kernel), _, rfl, iteF ?_⟩
  refine ⟨_, rfl, t, _, rfl, .inr (SqT.of ht), rfl, false, rfl, iteF ?_⟩
  refine ⟨_, rfl, _, rfl, (l, as, rs, i), rfl, ⟨hrow, ok, hi0⟩, fun v H1 hv => ?_⟩
  obtain ⟨e1, d, rfl, hd0, ho⟩ := hv
  have tok := tab_out ok i
  have sok := rows_sok ok i
  have ht1 := e1 _ _ ht
  have h1 := hres.same e1
  have hok := out_keys i rs
  refine ⟨_, rfl, _, rfl, _, rfl, t, _, 0, _, rfl, rfl, SqT.of ht1, rfl, _, rfl, t, _, 1, _, rfl, rfl, SqT.of ht1, rfl, _, rfl, t, _, 2, _, rfl, rfl, SqT.of ht1, rfl, (d, dc, n, a, b, outOf i rs, cs, costOf cs, qs, r), rfl, ⟨ho, tok, sok, e1 _ _ hdc, fun x hx => costs_look cok x (by rw [hok] at hx; exact hx), by rw [hok]; exact h1, hsh⟩, fun v H2 hv => ?_⟩
  obtain ⟨e2, rfl⟩ := hv
  refine ⟨_, rfl, iteF ?_⟩
  have ht2 := e2 _ _ ht1
  have h2 := h1.same e2
  refine ⟨_, rfl, t, _, 1, _, rfl, rfl, SqT.of ht2, rfl, a, _, rfl, .inl h2.wa, fun q1 hq1 => ?_⟩
  rw [fmap_kV]
  have e3 := same_new hq1 (.lst ((rs.map Row.name).map V.str))
  have e13 : Same H1 (upd H2 q1 (.lst ((rs.map Row.name).map V.str))) := fun y u e => e3 _ _ (e2 _ _ e)
  obtain ⟨kvs, hkv, hkm⟩ := keys_lst (ho.same e13)
  rw [hok] at hkm
  refine ⟨_, rfl, d, _, rfl, hkv, fun q2 hq2 => ?_⟩
  rw [hkm]
  have e4 := same_new hq2 (.lst ((rs.map Row.name).map V.str))
  have hsk : ∀ x ∈ rs.map Row.name, SOk x := fun x hx => sok x (by rw [hok]; exact hx)
  refine ⟨_, _, dp_strs (e4 _ _ upd_same), dp_strs upd_same, sh_strs hsk, sh_strs hsk, true, by rw [eqv_self_strs], iteT ?_⟩
  have e14 : Same H1 (upd (upd H2 q1 (.lst ((rs.map Row.name).map V.str))) q2 (.lst ((rs.map Row.name).map V.str))) := fun y u e => e4 _ _ (e13 _ _ e)
  generalize upd (upd H2 q1 (.lst ((rs.map Row.name).map V.str))) q2 (.lst ((rs.map Row.name).map V.str)) = H4 at e14
  have ht4 := e14 _ _ ht1
  have h4 := h1.same e14
  refine ⟨_, rfl, t, _, 2, _, rfl, rfl, SqT.of ht4, rfl, b, _, rfl, .inl h4.wb, fun q3 hq3 => ?_⟩
  rw [fmap_kV]
  have e5 := same_new hq3 (.lst ((rs.map Row.name).map V.str))
  have e15 : Same H1 (upd H4 q3 (.lst ((rs.map Row.name).map V.str))) := fun y u e => e5 _ _ (e14 _ _ e)
  obtain ⟨kvs2, hkv2, hkm2⟩ := keys_lst (ho.same e15)
  rw [hok] at hkm2
  refine ⟨_, rfl, d, _, rfl, hkv2, fun q4 hq4 => ?_⟩
  rw [hkm2]
  have e6 := same_new hq4 (.lst ((rs.map Row.name).map V.str))
  refine ⟨_, _, dp_strs (e6 _ _ upd_same), dp_strs upd_same, sh_strs hsk, sh_strs hsk, k _ _ ⟨fun y u e => e6 _ _ (e15 _ _ (e1 _ _ e)), by rw [eqv_self_strs]⟩⟩
end
end BX
end
section
set_option Elab.async false
set_option linter.all false
set_option maxRecDepth 100000
set_option maxHeartbeats 4000000
namespace BX
open PySem PySem.Spec PyProof.Rows L2
open C8 (Cal Mak Met pe_c pe_mk pe_mt pe_mt0 pe_gc)
theorem mem_put {w : List (Str × Int)} {k : Str} {v : Int} {q : Str × Int} (h : q ∈ KM.put w k v) : q ∈ w ∨ q = (k, v) := by
  induction w with
  | nil => exact .inr (List.mem_singleton.mp h)
  | cons p r ih =>
    unfold KM.put at h
    by_cases e : p.1 = k
    · rw [if_pos e] at h
      rcases List.mem_cons.mp h with z | z
      · exact .inr z
      · exact .inl (List.mem_cons_of_mem _ z)
    · rw [if_neg e] at h
      rcases List.mem_cons.mp h with z | z
      · exact .inl (z ▸ List.mem_cons_self)
      · exact (ih z).imp (List.mem_cons_of_mem _) id
/-- costs so far -/
structure CsOk (cs : List (Str × Int)) (ks : List Str) : Prop where
  keys : cs.map (·.1) = ks
  rng : ∀ q ∈ cs, 0 ≤ q.2 ∧ q.2 ≤ 1000000
theorem CsOk.put_new {cs : List (Str × Int)} {ks : List Str} (h : CsOk cs ks) {x : Str} {v : Int} (hx : x ∉ ks) (h0 : 0 ≤ v) (h1 : v ≤ 1000000) : CsOk (KM.put cs x v) (ks ++ [x]) := ⟨by
  rw [KM.put_new v (by rw [h.keys]; exact hx), List.map_append, h.keys]
  rfl, fun q hq => by
  rcases mem_put hq with e | e
  · exact h.rng q e
  · rw [e]
    exact ⟨h0, h1⟩⟩
theorem CsOk.put_old {cs : List (Str × Int)} {ks : List Str} (h : CsOk cs ks) {x : Str} {v : Int} (hx : x ∈ ks) (h0 : 0 ≤ v) (h1 : v ≤ 1000000) : CsOk (KM.put cs x v) ks := ⟨by
  rw [KM.put_keys_old v (by rw [h.keys]; exact hx), h.keys], fun q hq => by
  rcases mem_put hq with e | e
  · exact h.rng q e
  · rw [e]
    exact ⟨h0, h1⟩⟩
theorem erase_perm {α : Type} : ∀ {l : List α} {i : Nat} {x : α}, l[i]? = some x → (x :: l.eraseIdx i).Perm l
  | y :: l, 0, x, h => by
    simp at h
    rw [h]
    exact .refl _
  | y :: l, i + 1, x, h => by
    have h' : l[i]? = some x := by simpa using h
    exact (List.Perm.swap _ _ _).trans ((erase_perm h').cons y)
section
variable {P : Program} {w : World} {K : PySem.W.Frag} {mg : Str → Option Value} {base : Heap}
def spCosts : Sp := SpG (G := Addr × Addr × List Str × Nat) (fun (p, kn, _, _) => [.ref p, .ref kn]) (fun (p, kn, ks, c) H => PurseAt H p c ∧ c ≤ 600000 ∧ kn ≠ p ∧ H kn = some (.lst (ks.map V.str)) ∧ ks.Nodup ∧ ks.length ≤ 12 ∧ ∀ x ∈ ks, SOk x)
  (fun (p, kn, ks, c) H v H' => Spent p 100 H H' ∧ ∃ (d : Addr) (cs : List (Str × Int)) (ks' : List Str), v = .ref d ∧ H d = none ∧ H' d = some (.dK (dmap V.int cs)) ∧ CsOk cs ks' ∧ ks'.Perm ks)
abbrev N_law_costs : List PySem.Str := ["_law_purse_here", "_law_known", "_law_way", "_law_left", "_law_found", "_law_one", "_law_name", "_law_great"]
theorem sc_law_costs : FnScope N_law_costs ["_law_purse_here", "_law_known"] d_law_costs.scope := ⟨rfl, rfl, rfl, by decide +kernel, rfl, by decide +kernel, by decide +kernel⟩
theorem c_law_costs (T : TX K mg) : Cal P w K mg base 2 "_law_costs" spCosts [] := by
  refine calD T T.f_law_costs rfl T.g_law_costs (bindsN rfl fun _ _ _ _ _ _ us hl => match us, hl with | [_, _], _ => rfl) sc_law_costs (fun _ => rfl) fun cdv A outer s0 H Q E f g hr hp k => ?_
  obtain ⟨p, kn, ks, c⟩ := g
  obtain ⟨hp, hc, hkp, hkn, hnd, h12, hsk⟩ := hp
  refine ⟨_, (pss_cons (ps_set (i := 2) sc_law_costs.nd rfl (Or.inl rfl) (pe_c (c_law_take T) hr (by decide) rfl (pa_cons (pv 0) (pa_cons pe_int pa_nil))))
    (pss_cons (ps_par (i := 3) (j := 4) (by rfl) sc_law_costs.nd rfl rfl (by decide) rfl rfl (pa_cons (pe_callTy (call_list_of) rfl T.n_list b_list (pa_cons (pv 1) pa_nil)) (pa_cons pe_dnewK pa_nil)) (by rfl))
    (pss_cons (ps_set (i := 5) sc_law_costs.nd rfl (Or.inl rfl) (pe_c (c_law_take T) hr (by decide) rfl (pa_cons (pv 0) (pa_cons pe_int pa_nil))))
    (pss_cons (ps_while PassesOwn.never (pt_cmpR (op_neDK K rfl hr.units) (pv 3) (pe_lst pa_nil) (nomark _)) (pss_cons (ps_set (i := 6) sc_law_costs.nd rfl (Or.inl rfl) (pe_bm PySem.F.plainAttrs_list PySem.F.slot_list_pop PySem.F.type_list_pop mt_popAt (pv 3) (pa_cons (pe_c (c_law_take T) hr (by decide) rfl (pa_cons (pv 0) (pa_cons (pe_callB (call_len_seq) rfl T.n_len b_len (pa_cons (pv 3) pa_nil)) pa_nil))) pa_nil)))
      (pss_cons (ps_set (i := 7) sc_law_costs.nd rfl (Or.inl rfl) (pe_ix (ix_listK K rfl) (pe_lst (pa_cons pe_int (pa_cons pe_int (pa_cons pe_int pa_nil)))) (pe_c (c_law_take T) hr (by decide) rfl (pa_cons (pv 0) (pa_cons pe_int pa_nil))) (fun _ _ => rfl)))
      (pss_cons (ps_dput (hu_of hr) (pv 4) (pv 6) (pe_ix (ix_listK K rfl) (pe_lst (pa_cons (pe_c (c_law_take T) hr (by decide) rfl (pa_cons (pv 0) (pa_cons (pv 7) pa_nil))) (pa_cons pe_int (pa_cons (pv 5) pa_nil)))) (pe_callB (call_max2 rfl) rfl T.n_max b_max (pa_cons pe_int (pa_cons (pe_op op_sub (pe_c (c_law_take T) hr (by decide) rfl (pa_cons (pv 0) (pa_cons pe_int pa_nil))) pe_int) pa_nil))) (fun _ _ => rfl)) rfl)
      (C8.pss_cut (ps_if (pt_cmpR (op_eq) (pv 2) pe_int (nomark _)) (pss_one (ps_dput (hu_of hr) (pv 4) (pv 6) (pv 5) rfl)) pss_nil)
      (pss_one (ps_if (pt_cmpR (op_eq) (pv 2) pe_int (nomark _)) (pss_one (ps_dput (hu_of hr) (pv 4) (pv 6) (pe_c (c_law_take T) hr (by decide) rfl (pa_cons (pv 0) (pa_cons pe_int pa_nil))) rfl)) pss_nil)))))))
    (pss_one (ps_ret (pv 4))))))), ?_⟩
  refine ⟨_, rfl, (p, 5, c), rfl, ⟨hp, by omega, by decide, by decide⟩, fun v H1 hv => ?_⟩
  obtain ⟨s1, way, rfl, l1, u1⟩ := hv
  have hkn1 := s1.chg _ _ (fun z => hkp (List.mem_singleton.mp z)) hkn
  refine ⟨_, rfl, kn, _, rfl, .inl (SqL.of hkn1), fun L hL => ?_⟩
  have e2 := same_new hL (.lst (ks.map V.str))
  refine fun d hd => ?_
  have e3 := same_new hd (.dK [])
  have iL3 := e3 _ _ (upd_same (H := H1) (a := L) (o := .lst (ks.map V.str)))
  have id3 : upd (upd H1 L (.lst (ks.map V.str))) d (.dK []) d = some (.dK []) := upd_same
  have s03 : Spent p 1 H (upd (upd H1 L (.lst (ks.map V.str))) d (.dK [])) := (s1.trans (Spent.of e2)).trans (Spent.of e3)
  have L0 : H L = none := s1.dom hp L hL
  have d0 : H d = none := s1.dom hp d (Dom.of e2 d hd)
  have nLp : L ≠ p := fun z => apart hp L0 (List.mem_singleton.mpr z)
  have ndp : d ≠ p := fun z => apart hp d0 (List.mem_singleton.mpr z)
  have nLd : L ≠ d := fun z => by
    rw [← z, upd_same] at hd
    cases hd
  refine ⟨_, _, rfl, ?_⟩
  refine ⟨_, rfl, (p, 1000001, _), rfl, ⟨s03.pu _ hp, by omega, by decide, by decide⟩, fun v H4 hv => ?_⟩
  obtain ⟨s4, one, rfl, l4, u4⟩ := hv
  have s04 := s03.trans s4
  have iL4 := s4.chg _ _ (fun z => nLp (List.mem_singleton.mp z)) iL3
  have id4 := s4.chg _ _ (fun z => ndp (List.mem_singleton.mp z)) id3
  let σ0 : L2.St := ((((L2.start N_law_costs [V.ref p, .ref kn]).set 2 (some (.int way))).set 3 (some (.ref L))).set 4 (some (.ref d))).set 5 (some (.int one))
  refine ⟨fun m σ H' => Sl [6, 7] σ0 σ ∧ ∃ xs cs ds, m = xs.length ∧ Spent p (2 + 6 * ds.length) H H' ∧ H' L = some (.lst (xs.map V.str)) ∧ H' d = some (.dK (dmap V.int cs)) ∧ CsOk cs ds ∧ (ds ++ xs).Perm ks, ⟨_, Sl.refl, ks, [], [], rfl, s04, iL4, id4, ⟨rfl, fun _ h => by cases h⟩, .refl _⟩, ?_⟩
  rintro m σ H5 ⟨hσ, xs, cs, ds, rfl, s5, iL, id5, hcs, hpm⟩
  have hlen : ds.length + xs.length = ks.length := by rw [← List.length_append, hpm.length_eq]
  have hall : (ds ++ xs).Nodup := hpm.nodup_iff.mpr hnd
  refine ⟨_, hσ.g 3 (by decide) rfl, small 0 (by decide), fun q hq => ?_⟩
  have e6 := same_new hq (.lst [])
  refine ⟨_, _, dp_strs (e6 _ _ iL), dp_nil upd_same, sh_strs (fun x hx => hsk x (hpm.mem_iff.mp (List.mem_append_right _ hx))), sOk_nil, _, rfl, ?_⟩
  show if (!PyData.eqv (.list (xs.map PyData.str)) (.list [])) = true then _ else _
  rw [eqv_nil]
  have s06 := s5.trans (Spent.of e6)
  have iL6 := e6 _ _ iL
  have id6 := e6 _ _ id5
  generalize upd H5 q (.lst []) = H6 at s06 iL6 id6
  by_cases hxs : xs = []
  · subst hxs
    refine iteF ?_
    rw [List.append_nil] at hpm
    exact ⟨_, hσ.g 4 (by decide) rfl, k _ _ ⟨s06.mono (by omega), d, cs, ds, rfl, d0, id6, hcs, hpm⟩⟩
  · have hpos : 1 ≤ xs.length := List.length_pos_iff.mpr hxs
    have hem : (xs.map PyData.str).isEmpty = false := by
      cases xs with
      | nil => exact absurd rfl hxs
      | cons _ _ => rfl
    rw [hem]
    refine iteT ?_
    have p6 := s06.pu _ hp
    refine ⟨fun σ' H' => ∃ m', m' < xs.length ∧ (Sl [6, 7] σ0 σ' ∧ ∃ xs cs ds, m' = xs.length ∧ Spent p (2 + 6 * ds.length) H H' ∧ H' L = some (.lst (xs.map V.str)) ∧ H' d = some (.dK (dmap V.int cs)) ∧ CsOk cs ds ∧ (ds ++ xs).Perm ks), fun _ _ h => h, ?_⟩
    refine ⟨_, hσ.g 3 (by decide) rfl, .inl ⟨rfl, _, SqL.of iL6⟩, _, hσ.g 0 (by decide) rfl, _, hσ.g 3 (by decide) rfl, L, _, rfl, .inl (SqL.of iL6), (p, ((xs.map V.str).length : Int), _), rfl, ⟨p6, by omega, by rw [List.length_map]; omega, by rw [List.length_map]; omega⟩, fun v H7 hv => ?_⟩
    obtain ⟨s7, j, rfl, l7, u7⟩ := hv
    rw [List.length_map] at u7
    obtain ⟨j, rfl⟩ : ∃ n : Nat, j = (n : Nat) := ⟨j.toNat, (Int.toNat_of_nonneg l7).symm⟩
    have hj : j < xs.length := by omega
    have hx : xs[j]? = some xs[j] := List.getElem?_eq_getElem hj
    have hep := erase_perm hx
    generalize xs[j] = x at hx hep
    have iL7 := s7.chg _ _ (fun z => nLp (List.mem_singleton.mp z)) iL6
    have id7 := s7.chg _ _ (fun z => ndp (List.mem_singleton.mp z)) id6
    refine ⟨L, _, _, j, .str x, rfl, rfl, iL7, by omega, by omega, seqIndex_nat (by rw [List.length_map]; exact hj), by rw [List.getElem?_map, hx]; rfl, ?_⟩
    have s08 : Spent p (2 + 6 * ds.length + 0 + 1) H (upd H7 L (.lst ((xs.map V.str).eraseIdx j))) := (s06.trans s7).at' L0 nLp
    have iL8 : upd H7 L (.lst ((xs.map V.str).eraseIdx j)) L = some (.lst ((xs.eraseIdx j).map V.str)) := by rw [upd_same, erase_map]
    have id8 : upd H7 L (.lst ((xs.map V.str).eraseIdx j)) d = _ := (upd_ne nLd.symm).trans id7
    have hσ6 : Sl [6, 7] σ0 (σ.set 6 (some (.str x))) := hσ.set (by decide)
    have v6 : (σ.set 6 (some (.str x)))[6]? = some (some (.str x)) := hσ.s
    refine ⟨small 3 (by decide), fun q2 hq2 => ?_⟩
    have e9 := same_new hq2 (.lst [.int 2, .int 5, .int 1000001])
    have p8 := s08.pu _ hp
    refine ⟨_, hσ6.g 0 (by decide) rfl, (p, 3, _), rfl, ⟨p8.same e9, by omega, by decide, by decide⟩, fun v H10 hv => ?_⟩
    obtain ⟨s10, z10, rfl, l10, u10⟩ := hv
    obtain ⟨gr, hg1, hg2⟩ := three_at (x := 2) (y := 5) (z := 1000001) l10 u10
    have nq2 := apart p8 hq2
    refine ⟨q2, _, _, _, rfl, rfl, SqL.of (s10.chg _ _ nq2 upd_same), hg1, ?_⟩
    have s010 := (s08.trans (Spent.of e9)).trans s10
    have iL10 := s10.chg _ _ (fun z => nLp (List.mem_singleton.mp z)) (e9 _ _ iL8)
    have id10 := s10.chg _ _ (fun z => ndp (List.mem_singleton.mp z)) (e9 _ _ id8)
    have hσ7 : Sl [6, 7] σ0 ((σ.set 6 (some (.str x))).set 7 (some (.int gr))) := hσ6.set (by decide)
    have w7 : ((σ.set 6 (some (.str x))).set 7 (some (.int gr)))[7]? = some (some (.int gr)) := hσ6.s
    have w6 : ((σ.set 6 (some (.str x))).set 7 (some (.int gr)))[6]? = some (some (.str x)) := by
      rw [List.getElem?_set_ne (by decide)]
      exact v6
    have p10 := s010.pu _ hp
    refine ⟨_, hσ7.g 0 (by decide) rfl, _, w7, (p, gr, _), rfl, ⟨p10, by omega, by omega, by omega⟩, fun v H11 hv => ?_⟩
    obtain ⟨s11, z11, rfl, l11, u11⟩ := hv
    have p11 := s11.pu _ p10
    refine ⟨_, hσ7.g 5 (by decide) rfl, small 3 (by decide), fun q3 hq3 => ?_⟩
    have e12 := same_new hq3 (.lst [.int z11, .int 1000000, .int one])
    refine ⟨_, hσ7.g 0 (by decide) rfl, (p, 5, _), rfl, ⟨p11.same e12, by omega, by decide, by decide⟩, fun v H13 hv => ?_⟩
    obtain ⟨s13, z13, rfl, l13, u13⟩ := hv
    have hidx : 0 ≤ (if z13 - 2 > 0 then z13 - 2 else 0) ∧ (if z13 - 2 > 0 then z13 - 2 else 0) < 3 := by
      split <;> omega
    obtain ⟨cv, hc1, hc2⟩ := three_at (x := z11) (y := 1000000) (z := one) hidx.1 hidx.2
    have s013 := ((s010.trans s11).trans (Spent.of e12)).trans s13
    have iL13 := s13.chg _ _ (fun z => nLp (List.mem_singleton.mp z)) (e12 _ _ (s11.chg _ _ (fun z => nLp (List.mem_singleton.mp z)) iL10))
    have id13 := s13.chg _ _ (fun z => ndp (List.mem_singleton.mp z)) (e12 _ _ (s11.chg _ _ (fun z => ndp (List.mem_singleton.mp z)) id10))
    have hxd : x ∉ ds := fun hm => by
      have := List.nodup_append.mp hall
      exact this.2.2 x hm x (List.mem_of_getElem? hx) rfl
    have hcsl : cs.length ≤ 12 := by
      have : (cs.map (·.1)).length = ds.length := by rw [hcs.keys]
      rw [List.length_map] at this
      omega
    have hcn : (cs.map (·.1)).Nodup := by
      rw [hcs.keys]
      exact (List.nodup_append.mp hall).1
    have hcs1 : CsOk (KM.put cs x cv) (ds ++ [x]) := hcs.put_new hxd (by omega) (by omega)
    refine ⟨_, _, rfl, rfl, 0, z13 - 2, rfl, q3, _, _, _, rfl, rfl, SqL.of (s13.chg _ _ (apart p11 hq3) upd_same), hc1, _, hσ7.g 4 (by decide) rfl, _, w6, d, _, rfl, dput (g := V.int) id13 hcn (by omega) x cv, ?_⟩
    have s014 := s013.at' (o := .dK (dmap V.int (KM.put cs x cv))) d0 ndp
    have iL14 : upd H13 d (.dK (dmap V.int (KM.put cs x cv))) L = _ := (upd_ne nLd).trans iL13
    have id14 : upd H13 d (.dK (dmap V.int (KM.put cs x cv))) d = _ := upd_same
    generalize upd H13 d (.dK (dmap V.int (KM.put cs x cv))) = H14 at s014 iL14 id14
    generalize KM.put cs x cv = cs1 at hcs1 id14
    have hnd2 : (ds ++ [x]).Nodup := by
      rw [List.nodup_append]
      refine ⟨(List.nodup_append.mp hall).1, by simp, fun a ha b hb => ?_⟩
      rw [List.mem_singleton.mp hb]
      exact fun e => hxd (e ▸ ha)
    have l1 : ∀ {cs2}, CsOk cs2 (ds ++ [x]) → (cs2.map (·.1)).Nodup ∧ cs2.length ≤ 1000 := fun {cs2} h => by
      refine ⟨by rw [h.keys]; exact hnd2, ?_⟩
      have : (cs2.map (·.1)).length = (ds ++ [x]).length := by rw [h.keys]
      rw [List.length_map, List.length_append] at this
      simp only [List.length_singleton] at this
      omega
    have hxm : x ∈ ds ++ [x] := by simp
    refine ⟨fun σ' H' => σ' = (σ.set 6 (some (.str x))).set 7 (some (.int gr)) ∧ Spent p (2 + 6 * ds.length + 5) H H' ∧ H' L = some (.lst ((xs.eraseIdx j).map V.str)) ∧ ∃ cs2, H' d = some (.dK (dmap V.int cs2)) ∧ CsOk cs2 (ds ++ [x]), ?_, ?_⟩
    · refine ⟨_, hσ7.g 2 (by decide) rfl, rfl, _, rfl, ?_⟩
      refine ite2 (fun _ => ?_) (fun _ => ⟨rfl, s014.mono (by omega), iL14, cs1, id14, hcs1⟩)
      refine ⟨_, hσ7.g 5 (by decide) rfl, _, hσ7.g 4 (by decide) rfl, _, w6, d, _, rfl, dput (g := V.int) id14 (l1 hcs1).1 (l1 hcs1).2 x one, ?_⟩
      exact ⟨rfl, (s014.at' d0 ndp).mono (by omega), (upd_ne nLd).trans iL14, _, upd_same, hcs1.put_old hxm (by omega) (by omega)⟩
    rintro σ8 H15 ⟨hσe, s015, iL15, cs2, id15, hcs2⟩
    subst hσe
    have p15 := s015.pu _ hp
    have fin : ∀ (H' : Hp) cs3, Spent p (2 + 6 * ds.length + 6) H H' → H' L = some (.lst ((xs.eraseIdx j).map V.str)) → H' d = some (.dK (dmap V.int cs3)) → CsOk cs3 (ds ++ [x]) →
        ∃ m', m' < xs.length ∧ (Sl [6, 7] σ0 ((σ.set 6 (some (.str x))).set 7 (some (.int gr))) ∧ ∃ xs cs ds, m' = xs.length ∧ Spent p (2 + 6 * ds.length) H H' ∧ H' L = some (.lst (xs.map V.str)) ∧ H' d = some (.dK (dmap V.int cs)) ∧ CsOk cs ds ∧ (ds ++ xs).Perm ks) := by
      intro H' cs3 s a b c
      have hel : (xs.eraseIdx j).length + 1 = xs.length := by
        have := hep.length_eq
        rwa [List.length_cons] at this
      refine ⟨(xs.eraseIdx j).length, by omega, hσ7, xs.eraseIdx j, cs3, ds ++ [x], rfl, s.mono (by rw [List.length_append]; simp only [List.length_singleton]; omega), a, b, c, ?_⟩
      rw [List.append_assoc]
      exact ((hep.append_left ds)).trans hpm
    refine ⟨_, hσ7.g 2 (by decide) rfl, rfl, _, rfl, ?_⟩
    refine ite2 (fun _ => ?_) (fun _ => fin _ cs2 (s015.mono (by omega)) iL15 id15 hcs2)
    refine ⟨_, hσ7.g 0 (by decide) rfl, (p, 4, _), rfl, ⟨p15, by omega, by decide, by decide⟩, fun v H16 hv => ?_⟩
    obtain ⟨s16, z16, rfl, l16, u16⟩ := hv
    have iL16 := s16.chg _ _ (fun z => nLp (List.mem_singleton.mp z)) iL15
    have id16 := s16.chg _ _ (fun z => ndp (List.mem_singleton.mp z)) id15
    refine ⟨_, hσ7.g 4 (by decide) rfl, _, w6, d, _, rfl, dput (g := V.int) id16 (l1 hcs2).1 (l1 hcs2).2 x z16, ?_⟩
    exact fin _ _ ((s015.trans s16).at' d0 ndp) ((upd_ne nLd).trans iL16) upd_same (hcs2.put_old hxm (by omega) (by omega))
end
end BX
end
section
set_option Elab.async false
set_option linter.all false
set_option maxRecDepth 100000
set_option maxHeartbeats 4000000
namespace BX
open PySem PySem.Spec PyProof.Rows L2
open C8 (Cal Mak Met pe_c pe_mk pe_mt pe_mt0 pe_gc)
/-! ### a heap and its rows, away from what is written -/
def Lists (S : List Addr) (H : Hp) : Prop := ∀ b ∈ S, ∃ xs, H b = some (.lst xs)
theorem Lists.there {S : List Addr} {H : Hp} (h : Lists S H) : ∀ b ∈ S, H b ≠ none := fun b hb => by
  obtain ⟨xs, e⟩ := h b hb
  rw [e]
  exact fun z => by cases z
theorem Lists.chg {S T : List Addr} {H H' : Hp} (h : Lists S H) (c : Chg T H H') (hT : Lists T H') : Lists S H' := fun b hb => by
  by_cases e : b ∈ T
  · exact hT b e
  · obtain ⟨xs, q⟩ := h b hb
    exact ⟨xs, c _ _ e q⟩
structure Side (K : PySem.W.Frag) (S : List Addr) (H : Hp) (A h L : Addr) (as : List Addr) (rs : List Row) (ps : List Addr) : Prop where
  ra : H A = some (.lst (as.map V.ref))
  la : H L = some (.lst (ps.map V.ref))
  ob : ∃ dx, del S H h = some (.ins (CH K) dx (hfl L))
  rp : Paired (RowAt (del S H)) as rs
  pp : Paired (fun q r => ParcelAt K (del S H) q r) ps rs
section
variable {K : PySem.W.Frag} {S T : List Addr} {H H' : Hp} {A h L p : Addr} {as ps : List Addr} {rs : List Row}
theorem Side.heap (s : Side K S H A h L as rs ps) : HeapR K H h L ps rs := by
  obtain ⟨dx, q⟩ := s.ob
  exact ⟨⟨dx, del_same _ _ q⟩, s.la, Paired.mapP s.pp fun a r z => z.same del_same⟩
theorem Side.rows (s : Side K S H A h L as rs ps) : RowsAt H A as rs := ⟨s.ra, Paired.mapP s.rp fun a r z => z.same del_same⟩
theorem Side.rlen (s : Side K S H A h L as rs ps) : as.length = rs.length := Paired.length s.rp
theorem Side.plen (s : Side K S H A h L as rs ps) : ps.length = rs.length := Paired.length s.pp
theorem Side.chg (s : Side K S H A h L as rs ps) (c : Chg T H H') (hT : ∀ b ∈ T, b ∈ S) (hA : A ∉ T) (hL : L ∉ T) : Side K S H' A h L as rs ps := by
  obtain ⟨dx, q⟩ := s.ob
  have e := del_chg c hT
  exact ⟨c _ _ hA s.ra, c _ _ hL s.la, ⟨dx, e _ _ q⟩, Paired.mapP s.rp fun a r z => z.same e, Paired.mapP s.pp fun a r z => z.same e⟩
theorem Side.same (s : Side K S H A h L as rs ps) (e : Same H H') : Side K S H' A h L as rs ps := s.chg (T := []) (Chg.of e) (fun _ h => by cases h) (fun h => by cases h) (fun h => by cases h)
theorem Side.rowsP (s : Side K S H A h L as rs ps) (hp : p ∈ S) : Paired (RowAt (del [p] H)) as rs := Paired.mapP s.rp fun a r z => z.same (del_mono fun b hb => by rw [List.mem_singleton.mp hb]; exact hp)
end
theorem erase_at {α : Type} (l : List α) (i : Nat) : (l.eraseIdx i)[i]? = l[i + 1]? := by
  rw [List.getElem?_eraseIdx]
  simp
theorem erase_ins {α : Type} : ∀ (l : List α) (i : Nat) (x : α), i < l.length → (l.eraseIdx i).take i ++ [x] ++ (l.eraseIdx i).drop i = l.set i x
  | [], _, _, h => absurd h (Nat.not_lt_zero _)
  | _ :: _, 0, _, _ => rfl
  | y :: l, i + 1, x, h => congrArg (y :: ·) (erase_ins l i x (Nat.lt_of_succ_lt_succ h))
theorem erase_notin {l : List Str} {i : Nat} {x : Str} (hn : l.Nodup) (h : l[i]? = some x) : x ∉ l.eraseIdx i := by
  have := (erase_perm h).nodup_iff.mpr hn
  exact (List.nodup_cons.mp this).1
theorem paired_erase {α β : Type} {F : α → β → Prop} : ∀ {l : List α} {m : List β}, Paired F l m → ∀ i, Paired F (l.eraseIdx i) (m.eraseIdx i)
  | _, _, .nil, _ => .nil
  | _, _, .cons r t, 0 => t
  | _, _, .cons r t, i + 1 => .cons r (paired_erase t i)
theorem paired_set {α β : Type} {F : α → β → Prop} {a : α} {b : β} (r0 : F a b) : ∀ {l : List α} {m : List β}, Paired F l m → ∀ i, Paired F (l.set i a) (m.set i b)
  | _, _, .nil, _ => .nil
  | _, _, .cons r t, 0 => .cons r0 t
  | _, _, .cons r t, i + 1 => .cons r (paired_set r0 t i)
theorem set_self {α : Type} : ∀ {l : List α} {i : Nat} {x : α}, l[i]? = some x → l.set i x = l
  | _ :: _, 0, _, h => by
    simp at h
    rw [h]
    rfl
  | y :: l, i + 1, x, h => congrArg (y :: ·) (set_self (l := l) (by simpa using h))
theorem paired_drop {α β : Type} {F : α → β → Prop} : ∀ {l : List α} {m : List β}, Paired F l m → ∀ i, Paired F (l.drop i) (m.drop i)
  | _, _, h, 0 => h
  | _, _, .nil, _ + 1 => .nil
  | _, _, .cons r t, i + 1 => paired_drop t i
theorem cut_from {xs : List V} {n : Nat} {i : Int} (e : i = (n : Nat)) (h : n ≤ xs.length) : cutV xs (some i) none = xs.drop n := by
  rw [e]
  exact cut_drop h
section
variable {P : Program} {w : World} {K : PySem.W.Frag} {mg : Str → Option Value} {base : Heap}
/-- what changing a heap and its rows asks and gives -/
structure SideIn (K : PySem.W.Frag) (S : List Addr) (H : Hp) (p A h L : Addr) (as : List Addr) (rs : List Row) (ps : List Addr) (c : Nat) : Prop where
  pu : PurseAt H p c
  li : Lists S H
  sd : Side K S H A h L as rs ps
  ok : RowsOk rs
  ip : p ∈ S
  iA : A ∈ S
  iL : L ∈ S
  npA : p ≠ A
  npL : p ≠ L
  nAL : A ≠ L
abbrev XG := List Addr × Addr × Addr × Addr × Addr × List Addr × List Row × List Addr × Int × Nat
def spExch : Sp := SpG (G := XG) (fun (S, p, A, h, L, as, rs, ps, sp, c) => [.ref p, .ref A, .ref h, .int sp]) (fun (S, p, A, h, L, as, rs, ps, sp, c) H => SideIn K S H p A h L as rs ps c ∧ c ≤ 500000 ∧ rs ≠ [] ∧ 0 ≤ sp ∧ sp ≤ 1000)
  (fun (S, p, A, h, L, as, rs, ps, sp, c) H v H' => Chg [p, A, L] H H' ∧ ∃ as' rs' ps', SideIn K S H' p A h L as' rs' ps' (c + 50) ∧ rs'.map Row.name = rs.map Row.name)
abbrev N_law_exchanged : List PySem.Str := ["_law_purse_here", "_law_rows_here", "_law_heap_here", "_law_spare_here", "_law_at", "_law_row_here", "_law_other"]
theorem sc_law_exchanged : FnScope N_law_exchanged ["_law_purse_here", "_law_rows_here", "_law_heap_here", "_law_spare_here"] d_law_exchanged.scope := ⟨rfl, rfl, rfl, by decide +kernel, rfl, by decide +kernel, by decide +kernel⟩
theorem c_law_exchanged (T : TX K mg) : Cal P w K mg base 5 "_law_exchanged" (spExch (K := K)) [] := by
  refine calD T T.f_law_exchanged rfl T.g_law_exchanged (bindsN rfl fun _ _ _ _ _ _ us hl => match us, hl with | [_, _, _, _], _ => rfl) sc_law_exchanged (fun _ => rfl) fun cdv A' outer s0 H Q E f g hr hp k => ?_
  obtain ⟨S, p, A, h, L, as, rs, ps, sp, c⟩ := g
  obtain ⟨hin, hc, hne, hsp0, hsp1⟩ := hp
  have hpos : 1 ≤ rs.length := List.length_pos_iff.mpr hne
  have sd := hin.sd
  have hasl := sd.rlen
  have h12 := hin.ok.l12
  refine ⟨_, (pss_cons (ps_set (i := 4) sc_law_exchanged.nd rfl (Or.inl rfl) (pe_c (c_law_take T) hr (by decide) rfl (pa_cons (pv 0) (pa_cons (pe_callB (call_len_seq) rfl T.n_len b_len (pa_cons (pv 1) pa_nil)) pa_nil))))
    (pss_cons (ps_set (i := 5) sc_law_exchanged.nd rfl (Or.inl rfl) (pe_c (c_law_row T) hr (by decide) rfl (pa_cons (pv 0) (pa_cons (pe_ix (ix_listK K rfl) (pe_ix (ix_listK K rfl) (pv 1) (pv 4) (fun _ _ => rfl)) pe_int (fun _ _ => rfl)) (pa_cons (pv 1) (pa_cons (pv 3) (pa_cons pe_bl pa_nil)))))))
    (pss_cons (ps_expr (pe_mt (c_Heap_out T) hr (by decide) (pv 2) (pa_cons (pe_ix (ix_listK K rfl) (pv 5) pe_int (fun _ _ => rfl)) pa_nil)))
    (pss_cons (ps_asg (pv 5) (pg_sub (pv 1) (pv 4) set_list))
    (pss_one (ps_expr (pe_mt (c_Heap_put T) hr (by decide) (pv 2) (pa_cons (pe_c (c_law_made T) hr (by decide) rfl (pa_cons (pv 5) pa_nil)) (pa_cons (pe_ix (ix_listK K rfl) (pe_op op_cat (pe_lc (own := [("_law_other", 6)]) rfl sc_law_exchanged.nd (pi_listK K rfl (pe_slice (sl_listK K rfl) (pv 1) (po_some (pe_op op_add (pv 4) pe_int)) po_none)) (blkOk_by (own := [("_law_other", 6)]) (N := N_law_exchanged) (sc := d_law_exchanged.scope) (by decide +kernel)) (fun _ _ _ _ _ => (pg_name (i := 6) sc_law_exchanged.nd rfl (Or.inl rfl))) (fun _ _ _ _ _ => pts_nil) (fun _ _ _ _ _ => (pe_ix (ix_listK K rfl) (pv 6) pe_int (fun _ _ => rfl)))) (pe_lst (pa_cons pe_non pa_nil))) pe_int (fun _ _ => rfl)) pa_nil))))))))), ?_⟩
  refine ⟨_, rfl, _, rfl, A, _, rfl, .inl (SqL.of sd.ra), (p, ((as.map V.ref).length : Int), c), rfl, ⟨hin.pu, by omega, by rw [List.length_map]; omega, by rw [List.length_map]; omega⟩, fun v H1 hv => ?_⟩
  obtain ⟨s1, j, rfl, l1, u1⟩ := hv
  rw [List.length_map] at u1
  obtain ⟨j, rfl⟩ : ∃ n : Nat, j = (n : Nat) := ⟨j.toNat, (Int.toNat_of_nonneg l1).symm⟩
  have hj : j < rs.length := by omega
  have p1 := s1.pu _ hin.pu
  have npA : A ∉ [p] := fun z => hin.npA (List.mem_singleton.mp z).symm
  have npL : L ∉ [p] := fun z => hin.npL (List.mem_singleton.mp z).symm
  have pS : ∀ b ∈ [p], b ∈ S := fun b hb => by rw [List.mem_singleton.mp hb]; exact hin.ip
  have sd1 := sd.chg s1.chg pS npA npL
  obtain ⟨a0, ha0, hra0⟩ := paired_at sd1.rp (List.getElem?_eq_getElem hj)
  obtain ⟨sx, lx, g1, _⟩ := hra0.same del_same
  have nmj : (rs.map Row.name)[j]? = some rs[j].name := by
    rw [List.getElem?_map, List.getElem?_eq_getElem hj]
    rfl
  refine ⟨_, rfl, _, rfl, _, rfl, A, _, _, _, rfl, rfl, SqL.of sd1.ra, atI_nat (j := j) (by rw [List.getElem?_map, ha0]; rfl), a0, _, 0, _, rfl, rfl, SqL.of g1, rfl, _, rfl, _, rfl, (p, rs[j].name, A, as, rs, sp, false, _), rfl, ⟨p1, by omega, (hin.ok.ok _ (List.getElem_mem hj)).nm, hin.npA.symm, sd1.ra, sd1.rowsP hin.ip, hin.ok.ok, h12, hsp0, hsp1⟩, fun v H2 hv => ?_⟩
  obtain ⟨s2, a, r, rfl, hra, hro, hrn⟩ := hv
  have p2 := s2.pu _ p1
  have sd2 := sd1.chg s2.chg pS npA npL
  have li1 : Lists S H1 := hin.li.chg s1.chg fun b hb => by
    rw [List.mem_singleton.mp hb]
    obtain ⟨_, _, _, q, _⟩ := p1
    exact ⟨_, q⟩
  have li2 : Lists S H2 := li1.chg s2.chg fun b hb => by
    rw [List.mem_singleton.mp hb]
    obtain ⟨_, _, _, q, _⟩ := p2
    exact ⟨_, q⟩
  have hra2 : RowAt (del S H2) a r := hra.same (dif_del li1.there)
  obtain ⟨sy, ly, q1, q2, q3⟩ := hra2.same del_same
  obtain ⟨dx, hob⟩ := sd2.ob
  have hh2 := del_same _ _ hob
  have pl : PlaceAt rs r.name j := ⟨hin.ok.nd, by rw [hrn]; exact nmj⟩
  refine ⟨_, rfl, h, dx, _, rfl, hh2, rfl, _, rfl, a, _, 0, _, rfl, rfl, SqL.of q1, rfl, (h, L, ps, rs, r.name, j), rfl, ⟨sd2.heap, pl, h12⟩, fun v H3 hv => ?_⟩
  obtain ⟨c3, hL3⟩ := hv
  have LS : ∀ b ∈ [L], b ∈ S := fun b hb => by rw [List.mem_singleton.mp hb]; exact hin.iL
  have nLA : A ∉ [L] := fun z => hin.nAL (List.mem_singleton.mp z)
  have nLp : p ∉ [L] := fun z => hin.npL (List.mem_singleton.mp z)
  have e3 := del_chg c3 LS
  have hA3 := c3 _ _ nLA sd2.ra
  -- the rows' list
  refine ⟨_, rfl, _, rfl, _, rfl, A, _, (j : Nat), j, rfl, rfl, hA3, ixN_of (by rw [List.length_map, hasl]; exact hj), ?_⟩
  have hA4 : upd H3 A (.lst ((as.map V.ref).set j (.ref a))) A = some (.lst ((as.set j a).map V.ref)) := by
    rw [upd_same, List.map_set]
  have c4 : Chg [A] H3 (upd H3 A (.lst ((as.map V.ref).set j (.ref a)))) := Chg.upd Chg.refl (List.mem_singleton_self A)
  have hL4 : upd H3 A (.lst ((as.map V.ref).set j (.ref a))) L = _ := (upd_ne hin.nAL.symm).trans hL3
  have AS : ∀ b ∈ [A], b ∈ S := fun b hb => by rw [List.mem_singleton.mp hb]; exact hin.iA
  have e4 := del_chg c4 AS
  have p4 : PurseAt (upd H3 A (.lst ((as.map V.ref).set j (.ref a)))) p (c + 1 + 40) := by
    obtain ⟨g, a1, n, w1, w2⟩ := p2
    exact ⟨g, a1, n, c4 _ _ (fun z => hin.npA (List.mem_singleton.mp z)) (c3 _ _ nLp w1), w2⟩
  have e24 : Same (del S H2) (del S (upd H3 A (.lst ((as.map V.ref).set j (.ref a))))) := fun b o e => e4 _ _ (e3 _ _ e)
  generalize upd H3 A (.lst ((as.map V.ref).set j (.ref a))) = H4 at hA4 c4 hL4 e4 p4 e24
  have hra4 := hra2.same e24
  have rp4 : Paired (RowAt (del S H4)) (as.set j a) (rs.set j r) := paired_set hra4 (Paired.mapP sd2.rp fun a r z => z.same e24) j
  have hh4 : H4 h = _ := del_same _ _ (e24 _ _ hob)
  have li3 : Lists S H3 := li2.chg c3 fun b hb => by
    rw [List.mem_singleton.mp hb]
    exact ⟨_, hL3⟩
  have li4 : Lists S H4 := li3.chg c4 fun b hb => by
    rw [List.mem_singleton.mp hb]
    exact ⟨_, hA4⟩
  -- the parcel
  refine ⟨_, rfl, h, dx, _, rfl, hh4, rfl, _, rfl, (a, r), rfl, ⟨hra4.same del_same, hro⟩, fun v H5 hv => ?_⟩
  obtain ⟨e5, q, rfl, hq0, hq⟩ := hv
  have hA5 := e5 _ _ hA4
  have e5d : Same (del S H4) (del S H5) := del_chg (Chg.of e5 : Chg [] H4 H5) (fun _ h => by cases h)
  have rp5 : Paired (RowAt (del S H5)) (as.set j a) (rs.set j r) := Paired.mapP rp4 fun a r z => z.same e5d
  have rl5 : (as.set j a).length = (rs.set j r).length := Paired.length rp5
  have setl : (rs.set j r).length = rs.length := List.length_set
  refine ⟨_, rfl, _, rfl, _, _, rfl, rfl, _, rfl, A, _, rfl, SqL.of hA5, fun sl hsl => ?_⟩
  rw [cut_from (n := j + 1) (by omega) (by rw [List.length_map, rl5, setl]; omega), ← List.map_drop]
  have esl := same_new hsl (.lst (((as.set j a).drop (j + 1)).map V.ref))
  have isl : upd H5 sl (.lst (((as.set j a).drop (j + 1)).map V.ref)) sl = _ := upd_same
  have rp6 : Paired (RowAt (upd H5 sl (.lst (((as.set j a).drop (j + 1)).map V.ref)))) ((as.set j a).drop (j + 1)) ((rs.set j r).drop (j + 1)) := paired_drop (Paired.mapP rp5 fun a r z => (z.same del_same).same esl) (j + 1)
  refine ⟨sl, rfl, ⟨_, SqL.of isl⟩, fun D hD => ?_⟩
  generalize hds : (as.set j a).drop (j + 1) = ds at isl rp6 esl hD ⊢
  generalize hrsd : (rs.set j r).drop (j + 1) = rd at rp6
  have dlen : ds.length = rd.length := Paired.length rp6
  have rdl : rd.length ≤ 12 := by
    rw [← hrsd, List.length_drop, setl]
    omega
  generalize hH6 : upd H5 sl (.lst (ds.map V.ref)) = H6 at isl rp6 esl hD ⊢
  have hzw : ds.map V.ref = (ds.zip rd).map fun z => V.ref z.1 := by
    conv => lhs; rw [← List.map_fst_zip (Nat.le_of_eq dlen)]
    rw [List.map_map]
    rfl
  refine lc_map (J := Itl _ sl) (l := ds.zip rd) (fun z => V.ref z.1) (fun z => V.str z.2.name) (wl (ds.zip rd) fun z => V.ref z.1) (fun _ e => by rw [← hzw]; exact sg isl e) (by rw [List.length_zip]; omega) hD ?_ gN ?_
  · rintro ⟨b, rb⟩ H' hm hs Qy y
    obtain ⟨s1', l1', w1, _⟩ := (paired_zip rp6 hm).same hs
    exact ⟨wipe1, _, rfl, b, _, 0, _, rfl, rfl, SqL.of w1, rfl, y _ fun _ _ h => h⟩
  intro H7 hs7 hD7
  have hD7' : H7 D = some (.lst ((rd.map Row.name).map V.str)) := by
    rw [hD7]
    conv => rhs; rw [← List.map_snd_zip (Nat.le_of_eq dlen.symm)]
    rw [List.map_map, List.map_map]
    rfl
  refine ⟨small 1 (by decide), fun nn hnn => ?_⟩
  have e8 := same_new hnn (.lst [.non])
  refine ⟨D, nn, _, _, rfl, rfl, e8 _ _ hD7', upd_same, ?_, fun ct hct => ?_⟩
  · rw [List.length_map, List.length_map]
    exact small _ (by show rd.length + 1 ≤ 1000000; omega)
  have e9 := same_new hct (.lst ((rd.map Row.name).map V.str ++ [.non]))
  have e59 : Same H5 (upd (upd H7 nn (.lst [.non])) ct (.lst ((rd.map Row.name).map V.str ++ [.non]))) := fun b o e => e9 _ _ (e8 _ _ (hs7 _ _ (esl _ _ e)))
  have i9 : upd (upd H7 nn (.lst [.non])) ct (.lst ((rd.map Row.name).map V.str ++ [.non])) ct = _ := upd_same
  generalize upd (upd H7 nn (.lst [.non])) ct (.lst ((rd.map Row.name).map V.str ++ [.non])) = H9 at e59 i9
  have rel : (rs.eraseIdx j).length = rs.length - 1 := List.length_eraseIdx_of_lt hj
  have hrd : rd = rs.drop (j + 1) := by
    rw [← hrsd, List.drop_set_of_lt (by omega)]
  have ahead : ∃ av, atI ((rd.map Row.name).map V.str ++ [V.non]) 0 = some av ∧ Ahead (rs.eraseIdx j) av j := by
    cases hrd2 : rd with
    | nil =>
      refine ⟨.non, atI_nat (j := 0) rfl, .inl ⟨rfl, ?_⟩⟩
      have : rd.length = 0 := by rw [hrd2]; rfl
      rw [hrd, List.length_drop] at this
      omega
    | cons r1 rest =>
      refine ⟨.str r1.name, atI_nat (j := 0) rfl, .inr ⟨r1.name, rfl, ?_, ?_⟩⟩
      · rw [← erase_map]
        exact hin.ok.nd.sublist (List.eraseIdx_sublist _ _)
      · rw [← erase_map, erase_at, List.getElem?_map]
        have : rs[j + 1]? = some r1 := by
          have h0 : (rs.drop (j + 1))[0]? = some r1 := by rw [← hrd, hrd2]; rfl
          rw [List.getElem?_drop] at h0
          exact h0
        rw [this]
        rfl
  obtain ⟨av, hav, hah⟩ := ahead
  have e49 : Same H4 H9 := fun b o e => e59 _ _ (e5 _ _ e)
  have hLx := e49 _ _ hL4
  have e29 : Same (del S H2) H9 := fun b o e => e49 _ _ (del_same _ _ (e24 _ _ e))
  have hrk : HeapR K H9 h L (ps.eraseIdx j) (rs.eraseIdx j) := ⟨⟨dx, e29 _ _ hob⟩, hLx, paired_erase (Paired.mapP sd2.pp fun a r z => z.same e29) j⟩
  have hq9 : ParcelN K H4 H9 q r := (hq.same e59)
  refine ⟨ct, _, 0, av, rfl, rfl, SqL.of i9, hav, (h, L, ps.eraseIdx j, rs.eraseIdx j, q, r, av, j), rfl, ⟨hrk, hq9.at', ?_, by omega, hah⟩, fun v H10 hv => ?_⟩
  · rw [← erase_map]
    exact erase_notin hin.ok.nd (by rw [hrn]; exact nmj)
  obtain ⟨rfl, c10, hL10⟩ := hv
  have plen : ps.length = rs.length := sd.plen
  rw [erase_ins ps j q (by omega)] at hL10
  have e10 := del_chg c10 LS
  have e9d : Same (del S H4) (del S H9) := del_chg (Chg.of e49 : Chg [] H4 H9) (fun _ h => by cases h)
  have e2f : Same (del S H2) (del S H10) := fun b o e => e10 _ _ (e9d _ _ (e24 _ _ e))
  have li9 : Lists S H9 := li4.chg (Chg.of e49 : Chg [] H4 H9) (fun _ h => by cases h)
  have li10 : Lists S H10 := li9.chg c10 fun b hb => by
    rw [List.mem_singleton.mp hb]
    exact ⟨_, hL10⟩
  have hqf : ParcelAt K (del S H10) q r := ((hq9.del fun b hb => ⟨li4.there b hb, li9 b hb⟩)).same e10
  have cA : Chg [p, A, L] H H10 := Chg.trans (Chg.trans (Chg.trans (Chg.trans (Chg.trans (s1.chg.mono (by simp)) (s2.chg.mono (by simp))) (c3.mono (by simp))) (c4.mono (by simp))) (Chg.of e49)) (c10.mono (by simp))
  refine k _ _ ⟨cA, as.set j a, rs.set j r, ps.set j q, ⟨?_, li10, ⟨c10 _ _ nLA (e49 _ _ hA4), hL10, ⟨dx, e2f _ _ hob⟩, Paired.mapP rp4 fun a r z => z.same (fun b o e => e10 _ _ (e9d _ _ e)), paired_set hqf (Paired.mapP sd2.pp fun a r z => z.same e2f) j⟩, ⟨?_, ?_, ?_⟩, hin.ip, hin.iA, hin.iL, hin.npA, hin.npL, hin.nAL⟩, ?_⟩
  · obtain ⟨g, a1, n, w1, w2⟩ := p4
    exact PurseAt.mono ⟨g, a1, n, c10 _ _ nLp (e49 _ _ w1), w2⟩ (by omega)
  · have : (rs.set j r).map Row.name = rs.map Row.name := by
      rw [List.map_set, hrn]
      exact set_self nmj
    rw [this]
    exact hin.ok.nd
  · intro r' hr'
    rcases List.mem_or_eq_of_mem_set hr' with e | e
    · exact hin.ok.ok r' e
    · rw [e]
      exact hro
  · rw [setl]
    exact h12
  · rw [List.map_set, hrn]
    exact set_self nmj
end
end BX
end
section
set_option Elab.async false
set_option linter.all false
set_option maxRecDepth 100000
set_option maxHeartbeats 4000000
namespace BX
open PySem PySem.Spec PyProof.Rows L2
open C8 (Cal Mak Met pe_c pe_mk pe_mt pe_mt0 pe_gc)
section
variable {P : Program} {w : World} {K : PySem.W.Frag} {mg : Str → Option Value} {base : Heap}
theorem SideIn.spent {S : List Addr} {H H' : Hp} {p A h L : Addr} {as ps : List Addr} {rs : List Row} {c k : Nat} (s : SideIn K S H p A h L as rs ps c) (e : Spent p k H H') : SideIn K S H' p A h L as rs ps (c + k) := by
  have pS : ∀ b ∈ [p], b ∈ S := fun b hb => by rw [List.mem_singleton.mp hb]; exact s.ip
  have p1 := e.pu _ s.pu
  refine ⟨p1, s.li.chg e.chg fun b hb => ?_, s.sd.chg e.chg pS (fun z => s.npA (List.mem_singleton.mp z).symm) (fun z => s.npL (List.mem_singleton.mp z).symm), s.ok, s.ip, s.iA, s.iL, s.npA, s.npL, s.nAL⟩
  rw [List.mem_singleton.mp hb]
  obtain ⟨_, _, _, q, _⟩ := p1
  exact ⟨_, q⟩
theorem SideIn.same {S : List Addr} {H H' : Hp} {p A h L : Addr} {as ps : List Addr} {rs : List Row} {c : Nat} (s : SideIn K S H p A h L as rs ps c) (e : Same H H') : SideIn K S H' p A h L as rs ps c := s.spent (Spent.of e)
theorem SideIn.mono {S : List Addr} {H : Hp} {p A h L : Addr} {as ps : List Addr} {rs : List Row} {c d : Nat} (s : SideIn K S H p A h L as rs ps c) (e : c ≤ d) : SideIn K S H p A h L as rs ps d := ⟨s.pu.mono e, s.li, s.sd, s.ok, s.ip, s.iA, s.iL, s.npA, s.npL, s.nAL⟩
abbrev DG := List Addr × Addr × Addr × Addr × Addr × Addr × List Addr × List Row × List Addr × List Str × Int × Nat
def spDeed : Sp := SpG (G := DG) (fun (S, p, A, h, L, nm, as, rs, ps, names, sp, c) => [.ref p, .ref A, .ref h, .ref nm, .int sp])
  (fun (S, p, A, h, L, nm, as, rs, ps, names, sp, c) H => SideIn K S H p A h L as rs ps c ∧ c ≤ 400000 ∧ del S H nm = some (.lst (names.map V.str)) ∧ (∀ x ∈ names, NameOk x) ∧ names.length ≤ 12 ∧ names ≠ [] ∧ (∀ r ∈ rs, r.name ∈ names) ∧ 0 ≤ sp ∧ sp ≤ 1000)
  (fun (S, p, A, h, L, nm, as, rs, ps, names, sp, c) H v H' => Chg [p, A, L] H H' ∧ ∃ as' rs' ps', SideIn K S H' p A h L as' rs' ps' (c + 60) ∧ ∀ r ∈ rs', r.name ∈ names)
abbrev N_law_deed : List PySem.Str := ["_law_purse_here", "_law_rows_here", "_law_heap_here", "_law_names_here", "_law_spare_here", "_law_left", "_law_row_here", "_law_to", "_law_name", "_law_other"]
theorem sc_law_deed : FnScope N_law_deed ["_law_purse_here", "_law_rows_here", "_law_heap_here", "_law_names_here", "_law_spare_here"] d_law_deed.scope := ⟨rfl, rfl, rfl, by decide +kernel, rfl, by decide +kernel, by decide +kernel⟩
theorem c_law_deed (T : TX K mg) : Cal P w K mg base 6 "_law_deed" (spDeed (K := K)) [] := by
  refine calD T T.f_law_deed rfl T.g_law_deed (bindsN rfl fun _ _ _ _ _ _ us hl => match us, hl with | [_, _, _, _, _], _ => rfl) sc_law_deed (fun _ => rfl) fun cdv A' outer s0 H Q E f g hr hp k => ?_
  obtain ⟨S, p, A, h, L, nm, as, rs, ps, names, sp, c⟩ := g
  obtain ⟨hin, hc, hnm, hno, hn12, hnne, hsub, hsp0, hsp1⟩ := hp
  refine ⟨_, (pss_cons (ps_setLc (i := 5) (own := [("_law_name", 8)]) rfl sc_law_deed.nd rfl rfl (sw_true rfl rfl rfl (by decide +kernel)) (pi_listK K rfl (pv 3)) (blkOk_by (own := [("_law_name", 8)]) (N := N_law_deed) (sc := d_law_deed.scope) (by decide +kernel)) (fun _ _ _ _ _ => (pg_name (i := 8) sc_law_deed.nd rfl (Or.inl rfl))) (fun _ _ _ _ _ => (pts_one (pt_cmpR (op_notInK K rfl) (pv 8) (pe_lc (own := [("_law_row_here", 6)]) rfl sc_law_deed.nd (pi_listK K rfl (pv 1)) (blkOk_by (own := [("_law_row_here", 6)]) (N := N_law_deed) (sc := { kind := .function, names := [(".0", .local), ("_law_name", .local), ("_law_rows_here", .cell)], isGenerator := false, isCoroutine := false }) (by decide +kernel)) (fun _ _ _ _ _ => (pg_name (i := 6) sc_law_deed.nd rfl (Or.inl rfl))) (fun _ _ _ _ _ => pts_nil) (fun _ _ _ _ _ => (pe_ix (ix_listK K rfl) (pv 6) pe_int (fun _ _ => rfl)))) rfl))) (fun _ _ _ _ _ => (pv 8)))
    (C8.pss_cut (ps_if (PW.pt (pw_and (pt_cmpR (op_neDK K rfl hr.units) (pv 1) (pe_lst pa_nil) (nomark _)) (pw_and1 (pt_cmpR (op_eq) (pe_c (c_law_take T) hr (by decide) rfl (pa_cons (pv 0) (pa_cons pe_int pa_nil))) pe_int (nomark _))))) (pss_cons (ps_expr (pe_c (c_law_exchanged T) hr (by decide) rfl (pa_cons (pv 0) (pa_cons (pv 1) (pa_cons (pv 2) (pa_cons (pv 4) pa_nil))))))
      (pss_one ps_retN)) pss_nil)
    (C8.pss_cut (ps_if (PW.pt (pw_and (pt_cmpR (op_neDK K rfl hr.units) (pv 1) (pe_lst pa_nil) (nomark _)) (pw_and1 (PW.pt (pw_or (pt_cmpR (op_eqDK K rfl hr.units) (pv 5) (pe_lst pa_nil) (nomark _)) (pw_or1 (pt_cmpR (op_eq) (pe_c (c_law_take T) hr (by decide) rfl (pa_cons (pv 0) (pa_cons pe_int pa_nil))) pe_int (nomark _)))))))) (pss_cons (ps_expr (pe_mt (c_Heap_out T) hr (by decide) (pv 2) (pa_cons (pe_ix (ix_listK K rfl) (pe_bm PySem.F.plainAttrs_list PySem.F.slot_list_pop PySem.F.type_list_pop mt_popAt (pv 1) (pa_cons (pe_c (c_law_take T) hr (by decide) rfl (pa_cons (pv 0) (pa_cons (pe_callB (call_len_seq) rfl T.n_len b_len (pa_cons (pv 1) pa_nil)) pa_nil))) pa_nil)) pe_int (fun _ _ => rfl)) pa_nil)))
      (pss_one ps_retN)) pss_nil)
    (pss_cons (ps_set (i := 6) sc_law_deed.nd rfl (Or.inl rfl) (pe_c (c_law_row T) hr (by decide) rfl (pa_cons (pv 0) (pa_cons (pe_ix (ix_listK K rfl) (pv 5) (pe_c (c_law_take T) hr (by decide) rfl (pa_cons (pv 0) (pa_cons (pe_callB (call_len_seq) rfl T.n_len b_len (pa_cons (pv 5) pa_nil)) pa_nil))) (fun _ _ => rfl)) (pa_cons (pv 1) (pa_cons (pv 4) (pa_cons pe_bl pa_nil)))))))
    (pss_cons (ps_set (i := 7) sc_law_deed.nd rfl (Or.inl rfl) (pe_c (c_law_take T) hr (by decide) rfl (pa_cons (pv 0) (pa_cons (pe_op op_add (pe_callB (call_len_seq) rfl T.n_len b_len (pa_cons (pv 1) pa_nil)) pe_int) pa_nil))))
    (pss_cons (ps_expr (pe_mt (c_Heap_put T) hr (by decide) (pv 2) (pa_cons (pe_c (c_law_made T) hr (by decide) rfl (pa_cons (pv 6) pa_nil)) (pa_cons (pe_ix (ix_listK K rfl) (pe_op op_cat (pe_lc (own := [("_law_other", 9)]) rfl sc_law_deed.nd (pi_listK K rfl (pv 1)) (blkOk_by (own := [("_law_other", 9)]) (N := N_law_deed) (sc := d_law_deed.scope) (by decide +kernel)) (fun _ _ _ _ _ => (pg_name (i := 9) sc_law_deed.nd rfl (Or.inl rfl))) (fun _ _ _ _ _ => pts_nil) (fun _ _ _ _ _ => (pe_ix (ix_listK K rfl) (pv 9) pe_int (fun _ _ => rfl)))) (pe_lst (pa_cons pe_non pa_nil))) (pv 7) (fun _ _ => rfl)) pa_nil))))
    (pss_one (ps_expr (pe_bm PySem.F.plainAttrs_list PySem.F.slot_list_insert PySem.F.type_list_insert mt_insert (pv 1) (pa_cons (pv 7) (pa_cons (pv 6) pa_nil))))))))))), ?_⟩
  have sd := hin.sd
  have hasl := sd.rlen
  have h12 := hin.ok.l12
  have hnm0 := del_same _ _ hnm
  obtain ⟨nmS, _⟩ := del_to hnm
  have hzw : as.map V.ref = (as.zip rs).map fun z => V.ref z.1 := by
    conv => lhs; rw [← List.map_fst_zip (Nat.le_of_eq hasl)]
    rw [List.map_map]
    rfl
  have zl : (as.zip rs).length ≤ 12 := by
    rw [List.length_zip]
    omega
  -- those that are left
  refine ⟨_, rfl, nm, rfl, ⟨_, SqL.of hnm0⟩, fun D hD => ?_⟩
  refine lc_pure (J := Itl _ nm) (l := names) V.str (fun x => if x ∉ rs.map Row.name then some (V.str x) else none) (wl names V.str) (fun _ e => sg hnm0 e) (by omega) hD ?_ ?_
  · intro x H' hx hs Qy Qn y n
    have hra' := hs _ _ sd.ra
    have hrow' := sd.rows.same hs
    refine ⟨rfl, _, rfl, _, rfl, A, rfl, ⟨_, SqL.of hra'⟩, fun D2 hD2 => ?_⟩
    rw [hzw] at hra'
    refine lc_map (J := Itl _ A) (l := as.zip rs) (fun z => V.ref z.1) (fun z => V.str z.2.name) (wl (as.zip rs) fun z => V.ref z.1) (fun _ e => sg hra' e) (by omega) hD2 ?_ gN ?_
    · rintro ⟨b, rb⟩ H2 hm hs2 Qz z
      obtain ⟨s1', l1', w1, _⟩ := (paired_zip hrow'.ps hm).same hs2
      exact ⟨rfl, _, rfl, b, _, 0, _, rfl, rfl, SqL.of w1, rfl, z _ fun _ _ h => h⟩
    intro H2 hs2 hD22
    have hD3 : H2 D2 = some (.lst ((rs.map Row.name).map V.str)) := by
      rw [hD22]
      conv => rhs; rw [← List.map_snd_zip (Nat.le_of_eq hasl.symm)]
      rw [List.map_map, List.map_map]
      rfl
    refine ⟨D2, _, rfl, .inl (SqL.of hD3), rfl, flat_strs _, _, rfl, ?_⟩
    rw [if_pos rfl, inV_str]
    by_cases hm : x ∈ rs.map Row.name
    · rw [decide_eq_true hm]
      exact iteF (n _ (if_neg (fun q => q hm)) hs2)
    · rw [decide_eq_false hm]
      exact iteT ⟨_, rfl, y _ _ (if_pos hm) hs2⟩
  intro H1 hs1 hD1
  rw [fm_if] at hD1
  generalize hlf : names.filter (fun x => decide (x ∉ rs.map Row.name)) = left at hD1
  have hD1 : H1 D = some (.lst (left.map V.str)) := hD1
  have hlm : ∀ x ∈ left, x ∈ names ∧ x ∉ rs.map Row.name := fun x hx => by
    rw [← hlf] at hx
    exact ⟨(List.mem_filter.mp hx).1, of_decide_eq_true (List.mem_filter.mp hx).2⟩
  have hleft12 : left.length ≤ 12 := by
    rw [← hlf]
    exact Nat.le_trans (List.length_filter_le _ _) hn12
  have in1 := hin.same hs1
  let σ0 : L2.St := (L2.start N_law_deed [V.ref p, .ref A, .ref h, .ref nm, .int sp]).set 5 (some (.ref D))
  have D0 : H D = none := hD
  have DS : D ∉ S := fun z => hin.li.there D z D0
  have test : ∀ (H2 : Hp) (Qb : Bool → Hp → Prop), SideIn K S H2 p A h L as rs ps (c + 10) → (∀ H3, Same H2 H3 → Qb (decide (rs ≠ [])) H3) →
      tTest (tOp (rNeD K) (tVar 1) (tLst tNil)) σ0 H2 Qb := by
    intro H2 Qb s2 q2
    refine ⟨_, rfl, small 0 (by decide), fun q hq => ?_⟩
    have e3 := same_new hq (.lst [])
    have hrow := s2.sd.rows.same e3
    refine ⟨_, _, dp_rows hrow.ls hrow.ps, dp_nil upd_same, sh_rows s2.ok.ok, sOk_nil, _, rfl, ?_⟩
    rw [eqv_nil]
    have : (!(rs.map rowD).isEmpty) = decide (rs ≠ []) := by cases rs <;> rfl
    rw [this]
    exact q2 _ e3
  -- the first way
  refine ⟨fun σ' H' => σ' = σ0 ∧ Spent p 1 H1 H', ?_, ?_⟩
  · refine test H1 _ (in1.mono (by omega)) fun H2 e2 => ?_
    by_cases hr0 : rs = []
    · rw [decide_eq_false (fun z => z hr0)]
      exact iteF (iteF ⟨rfl, (Spent.of e2).mono (by decide)⟩)
    · rw [decide_eq_true hr0]
      have in2 := in1.same e2
      refine iteT ⟨_, rfl, (p, 2, c), rfl, ⟨in2.pu, by omega, by decide, by decide⟩, fun v H3 hv => ?_⟩
      obtain ⟨s3, z3, rfl, l3, u3⟩ := hv
      refine ⟨rfl, _, rfl, ?_⟩
      refine ite2 (fun _ => ?_) (fun _ => ⟨rfl, (Spent.of e2).trans s3⟩)
      have in3 := in2.spent s3
      refine ⟨_, rfl, _, rfl, _, rfl, _, rfl, (S, p, A, h, L, as, rs, ps, sp, _), rfl, ⟨in3, by omega, hr0, hsp0, hsp1⟩, fun v H4 hv => ?_⟩
      obtain ⟨c4, as', rs', ps', in4, hn4⟩ := hv
      refine k _ _ ⟨Chg.trans (Chg.trans (Chg.trans (Chg.of hs1) (Chg.of e2)) (s3.chg.mono (by simp))) c4, as', rs', ps', in4.mono (by omega), fun r hr' => ?_⟩
      have : r.name ∈ rs'.map Row.name := List.mem_map_of_mem hr'
      rw [hn4] at this
      obtain ⟨r0, h0, e0⟩ := List.mem_map.mp this
      rw [← e0]
      exact hsub r0 h0
  rintro σ' H2 ⟨hσ, s2⟩
  subst hσ
  have in2 := in1.spent s2
  have hD2 := s2.chg _ _ (fun z => DS (by rw [List.mem_singleton.mp z]; exact hin.ip)) hD1
  have c02 : Chg [p] H H2 := Chg.trans (Chg.of hs1) s2.chg
  -- the second way
  refine ⟨fun σ' H' => σ' = σ0 ∧ Spent p 2 H1 H' ∧ left ≠ [], ?_, ?_⟩
  · refine test H2 _ (in2.mono (by omega)) fun H3 e3 => ?_
    have in3 := in2.same e3
    by_cases hr0 : rs = []
    · rw [decide_eq_false (fun z => z hr0)]
      refine iteF (iteF ⟨rfl, (s2.trans (Spent.of e3)).mono (by decide), ?_⟩)
      rw [← hlf, hr0]
      intro z
      obtain ⟨x, hx⟩ := List.exists_mem_of_ne_nil _ hnne
      have := List.filter_eq_nil_iff.mp z x hx
      exact this (decide_eq_true (fun q => by cases q))
    · rw [decide_eq_true hr0]
      refine iteT ?_
      have hpos : 1 ≤ rs.length := List.length_pos_iff.mpr hr0
      -- one goes out
      have out : ∀ H4, Spent p 2 H1 H4 → tSeq (tDrop (tMeth (CH K) "out" (spHout (K := K)) [] C8.E0 (tVar 2) (tCons (tOp (rIxL K) (tBM K "list" rPopAt (tVar 1) (tCons (tCall spTake [] C8.E0 (tCons (tVar 0) (tCons (tCB (fun xs H Q => ∃ p ys, xs = [V.ref p] ∧ (SqL K H p ys ∨ SqT K H p ys) ∧ Q (V.int ys.length) H) (tCons (tVar 1) tNil)) tNil))) tNil)) (tC (.int 0))) tNil)))
          tRetN { nx := fun σ' H' => σ' = σ0 ∧ Spent p 2 H1 H' ∧ left ≠ [], rt := Q } σ0 H4 := by
        intro H4 s4
        have in4 := in1.spent s4
        obtain ⟨dx, hob⟩ := in4.sd.ob
        refine ⟨_, rfl, h, dx, _, rfl, del_same _ _ hob, rfl, _, rfl, .inl ⟨rfl, _, SqL.of in4.sd.ra⟩, _, rfl, _, rfl, A, _, rfl, .inl (SqL.of in4.sd.ra), (p, ((as.map V.ref).length : Int), _), rfl, ⟨in4.pu, by omega, by rw [List.length_map]; omega, by rw [List.length_map]; omega⟩, fun v H5 hv => ?_⟩
        obtain ⟨s5, j, rfl, l5, u5⟩ := hv
        rw [List.length_map] at u5
        obtain ⟨j, rfl⟩ : ∃ n : Nat, j = (n : Nat) := ⟨j.toNat, (Int.toNat_of_nonneg l5).symm⟩
        have hj : j < rs.length := by omega
        have in5 := in4.spent s5
        obtain ⟨a, ha, hra⟩ := paired_at in5.sd.rp (List.getElem?_eq_getElem hj)
        refine ⟨A, _, _, j, .ref a, rfl, rfl, in5.sd.ra, by omega, by omega, seqIndex_nat (by rw [List.length_map, hasl]; exact hj), by rw [List.getElem?_map, ha]; rfl, ?_⟩
        rw [erase_map]
        have AS : ∀ b ∈ [A], b ∈ S := fun b hb => by rw [List.mem_singleton.mp hb]; exact hin.iA
        have c6 : Chg [A] H5 (upd H5 A (.lst ((as.eraseIdx j).map V.ref))) := Chg.upd Chg.refl (List.mem_singleton_self A)
        have e6 := del_chg c6 AS
        have iA6 : upd H5 A (.lst ((as.eraseIdx j).map V.ref)) A = _ := upd_same
        have iL6 : upd H5 A (.lst ((as.eraseIdx j).map V.ref)) L = _ := (upd_ne hin.nAL.symm).trans in5.sd.la
        generalize upd H5 A (.lst ((as.eraseIdx j).map V.ref)) = H6 at c6 e6 iA6 iL6
        obtain ⟨sx, lx, g1, _⟩ := (hra.same e6).same del_same
        obtain ⟨dx5, hob5⟩ := in5.sd.ob
        have nmj : (rs.map Row.name)[j]? = some rs[j].name := by
          rw [List.getElem?_map, List.getElem?_eq_getElem hj]
          rfl
        have hrk : HeapR K H6 h L ps rs := ⟨⟨dx5, del_same _ _ (e6 _ _ hob5)⟩, iL6, Paired.mapP in5.sd.pp fun a r z => (z.same e6).same del_same⟩
        refine ⟨a, _, 0, _, rfl, rfl, SqL.of g1, rfl, (h, L, ps, rs, rs[j].name, j), rfl, ⟨hrk, ⟨hin.ok.nd, nmj⟩, h12⟩, fun v H7 hv => ?_⟩
        obtain ⟨c7, hL7⟩ := hv
        have LS : ∀ b ∈ [L], b ∈ S := fun b hb => by rw [List.mem_singleton.mp hb]; exact hin.iL
        have e7 := del_chg c7 LS
        have e57 : Same (del S H5) (del S H7) := fun b o e => e7 _ _ (e6 _ _ e)
        have li6 : Lists S H6 := in5.li.chg c6 fun b hb => by
          rw [List.mem_singleton.mp hb]
          exact ⟨_, iA6⟩
        have li7 : Lists S H7 := li6.chg c7 fun b hb => by
          rw [List.mem_singleton.mp hb]
          exact ⟨_, hL7⟩
        obtain ⟨gg, a1, n, w1, w2⟩ := in5.pu
        refine k _ _ ⟨Chg.trans (Chg.trans (Chg.trans (Chg.trans (Chg.of hs1) (s4.chg.mono (by simp))) (s5.chg.mono (by simp))) (c6.mono (by simp))) (c7.mono (by simp)), as.eraseIdx j, rs.eraseIdx j, ps.eraseIdx j, ⟨?_, li7, ⟨c7 _ _ (fun z => hin.nAL (List.mem_singleton.mp z)) iA6, hL7, ⟨dx5, e57 _ _ hob5⟩, paired_erase (Paired.mapP in5.sd.rp fun a r z => z.same e57) j, paired_erase (Paired.mapP in5.sd.pp fun a r z => z.same e57) j⟩, ⟨?_, fun r hr' => hin.ok.ok r (List.mem_of_mem_eraseIdx hr'), ?_⟩, hin.ip, hin.iA, hin.iL, hin.npA, hin.npL, hin.nAL⟩, fun r hr' => hsub r (List.mem_of_mem_eraseIdx hr')⟩
        · exact PurseAt.mono ⟨gg, a1, n, c7 _ _ (fun z => hin.npL (List.mem_singleton.mp z)) (c6 _ _ (fun z => hin.npA (List.mem_singleton.mp z)) w1), w2⟩ (by omega)
        · rw [← erase_map]
          exact hin.ok.nd.sublist (List.eraseIdx_sublist _ _)
        · have := List.length_eraseIdx_le rs j
          omega
      refine ⟨_, rfl, small 0 (by decide), fun q hq => ?_⟩
      have e4 := same_new hq (.lst [])
      have s24 : Spent p 1 H1 (upd H3 q (.lst [])) := (s2.trans (Spent.of e3)).trans (Spent.of e4)
      refine ⟨_, _, dp_strs (e4 _ _ (e3 _ _ hD2)), dp_nil upd_same, sh_strs (fun x hx => name_sok (hno x (hlm x hx).1)), sOk_nil, _, rfl, ?_⟩
      rw [eqv_nil]
      by_cases hl0 : left = []
      · subst hl0
        exact iteT (iteT (out _ (s24.mono (by decide))))
      · have : (left.map PyData.str).isEmpty = false := by
          cases left with
          | nil => exact absurd rfl hl0
          | cons _ _ => rfl
        rw [this]
        refine iteF ⟨_, rfl, (p, 2, _), rfl, ⟨(in1.spent s24).pu, by omega, by decide, by decide⟩, fun v H5 hv => ?_⟩
        obtain ⟨s5, z5, rfl, l5, u5⟩ := hv
        refine ⟨rfl, _, rfl, ?_⟩
        exact ite2 (fun _ => out _ (s24.trans s5)) (fun _ => ⟨rfl, s24.trans s5, hl0⟩)
  rintro σ' H3 ⟨hσ, s3, hlne⟩
  subst hσ
  have in3 := in1.spent s3
  have hD3 := s3.chg _ _ (fun z => DS (by rw [List.mem_singleton.mp z]; exact hin.ip)) hD1
  have hlpos : 1 ≤ left.length := List.length_pos_iff.mpr hlne
  -- a new one
  refine ⟨_, rfl, _, rfl, _, rfl, _, rfl, D, _, rfl, .inl (SqL.of hD3), (p, ((left.map V.str).length : Int), _), rfl, ⟨in3.pu, by omega, by rw [List.length_map]; omega, by rw [List.length_map]; omega⟩, fun v H4 hv => ?_⟩
  obtain ⟨s4, i, rfl, l4, u4⟩ := hv
  rw [List.length_map] at u4
  obtain ⟨i, rfl⟩ : ∃ n : Nat, i = (n : Nat) := ⟨i.toNat, (Int.toNat_of_nonneg l4).symm⟩
  have hi : i < left.length := by omega
  have in4 := in3.spent s4
  have hD4 := s4.chg _ _ (fun z => DS (by rw [List.mem_singleton.mp z]; exact hin.ip)) hD3
  have hxm := hlm left[i] (List.getElem_mem hi)
  have hx : left[i]? = some left[i] := List.getElem?_eq_getElem hi
  generalize left[i] = x at hxm hx
  refine ⟨D, _, _, _, rfl, rfl, SqL.of hD4, atI_nat (j := i) (by rw [List.getElem?_map, hx]; rfl), _, rfl, _, rfl, (p, x, A, as, rs, sp, false, _), rfl, ⟨in4.pu, by omega, hno x hxm.1, hin.npA.symm, in4.sd.ra, in4.sd.rowsP hin.ip, hin.ok.ok, h12, hsp0, hsp1⟩, fun v H5 hv => ?_⟩
  obtain ⟨s5, a, r, rfl, hra, hro, hrn⟩ := hv
  have in5 := in4.spent s5
  have hra5 : RowAt (del S H5) a r := hra.same (dif_del in4.li.there)
  refine ⟨_, rfl, _, rfl, A, _, rfl, .inl (SqL.of in5.sd.ra), _, _, rfl, rfl, (p, ((as.map V.ref).length : Int) + 1, _), rfl, ⟨in5.pu, by omega, by omega, by rw [List.length_map]; omega⟩, fun v H6 hv => ?_⟩
  obtain ⟨s6, j, rfl, l6, u6⟩ := hv
  rw [List.length_map] at u6
  obtain ⟨j, rfl⟩ : ∃ n : Nat, j = (n : Nat) := ⟨j.toNat, (Int.toNat_of_nonneg l6).symm⟩
  have hj : j ≤ rs.length := by omega
  have in6 := in5.spent s6
  have pS : ∀ b ∈ [p], b ∈ S := fun b hb => by rw [List.mem_singleton.mp hb]; exact hin.ip
  have hra6 := hra5.same (del_chg s6.chg pS)
  obtain ⟨dx, hob⟩ := in6.sd.ob
  have hrl : rs.length < 12 := by
    have h1 : (x :: rs.map Row.name).Nodup := List.nodup_cons.mpr ⟨hxm.2, hin.ok.nd⟩
    have := KM.nodup_len h1 (U := names) fun y hy => by
      rcases List.mem_cons.mp hy with e | e
      · rw [e]
        exact hxm.1
      · obtain ⟨r0, h0, e0⟩ := List.mem_map.mp e
        rw [← e0]
        exact hsub r0 h0
    rw [List.length_cons, List.length_map] at this
    omega
  refine ⟨_, rfl, h, dx, _, rfl, del_same _ _ hob, rfl, _, rfl, (a, r), rfl, ⟨hra6.same del_same, hro⟩, fun v H7 hv => ?_⟩
  obtain ⟨e7, q, rfl, hq0, hq⟩ := hv
  have in7 := in6.same e7
  have hrow7 := in7.sd.rows
  have hra7 := hrow7.ls
  refine ⟨_, rfl, A, rfl, ⟨_, SqL.of hra7⟩, fun D2 hD2 => ?_⟩
  rw [hzw] at hra7
  refine lc_map (J := Itl _ A) (l := as.zip rs) (fun z => V.ref z.1) (fun z => V.str z.2.name) (wl (as.zip rs) fun z => V.ref z.1) (fun _ e => sg hra7 e) (by omega) hD2 ?_ gN ?_
  · rintro ⟨b, rb⟩ H' hm hs Qy y
    obtain ⟨s1', l1', w1, _⟩ := (paired_zip hrow7.ps hm).same hs
    exact ⟨rfl, _, rfl, b, _, 0, _, rfl, rfl, SqL.of w1, rfl, y _ fun _ _ h => h⟩
  intro H8 hs8 hD8
  have hD8' : H8 D2 = some (.lst ((rs.map Row.name).map V.str)) := by
    rw [hD8]
    conv => rhs; rw [← List.map_snd_zip (Nat.le_of_eq hasl.symm)]
    rw [List.map_map, List.map_map]
    rfl
  refine ⟨small 1 (by decide), fun nn hnn => ?_⟩
  have e9 := same_new hnn (.lst [.non])
  refine ⟨D2, nn, _, _, rfl, rfl, e9 _ _ hD8', upd_same, ?_, fun ct hct => ?_⟩
  · rw [List.length_map, List.length_map]
    exact small _ (by show rs.length + 1 ≤ 1000000; omega)
  have e10 := same_new hct (.lst ((rs.map Row.name).map V.str ++ [.non]))
  have e710 : Same H7 (upd (upd H8 nn (.lst [.non])) ct (.lst ((rs.map Row.name).map V.str ++ [.non]))) := fun b o e => e10 _ _ (e9 _ _ (hs8 _ _ e))
  have i10 : upd (upd H8 nn (.lst [.non])) ct (.lst ((rs.map Row.name).map V.str ++ [.non])) ct = _ := upd_same
  generalize upd (upd H8 nn (.lst [.non])) ct (.lst ((rs.map Row.name).map V.str ++ [.non])) = H10 at e710 i10
  have ahead : ∃ av, atI ((rs.map Row.name).map V.str ++ [V.non]) (j : Nat) = some av ∧ Ahead rs av j := by
    by_cases hjl : j < rs.length
    · refine ⟨.str rs[j].name, atI_nat ?_, .inr ⟨rs[j].name, rfl, hin.ok.nd, ?_⟩⟩
      · rw [List.getElem?_append_left (by rw [List.length_map, List.length_map]; exact hjl), List.getElem?_map, List.getElem?_map, List.getElem?_eq_getElem hjl]
        rfl
      · rw [List.getElem?_map, List.getElem?_eq_getElem hjl]
        rfl
    · have ej : j = rs.length := by omega
      refine ⟨.non, atI_nat ?_, .inl ⟨rfl, ej⟩⟩
      rw [List.getElem?_append_right (by rw [List.length_map, List.length_map]; omega), List.length_map, List.length_map, ej, Nat.sub_self]
      rfl
  obtain ⟨av, hav, hah⟩ := ahead
  have in10 := in7.same e710
  have hq10 : ParcelN K H6 H10 q r := hq.same e710
  have hxr : r.name ∉ rs.map Row.name := by
    rw [hrn]
    exact hxm.2
  refine ⟨_, rfl, ct, _, _, av, rfl, rfl, SqL.of i10, hav, (h, L, ps, rs, q, r, av, j), rfl, ⟨in10.sd.heap, hq10.at', hxr, hrl, hah⟩, fun v H11 hv => ?_⟩
  obtain ⟨rfl, c11, hL11⟩ := hv
  have LS : ∀ b ∈ [L], b ∈ S := fun b hb => by rw [List.mem_singleton.mp hb]; exact hin.iL
  have AS : ∀ b ∈ [A], b ∈ S := fun b hb => by rw [List.mem_singleton.mp hb]; exact hin.iA
  have e11 := del_chg c11 LS
  have iA11 := c11 _ _ (fun z => hin.nAL (List.mem_singleton.mp z)) in10.sd.ra
  have es : (as.map V.ref).take ((j : Nat) : Int).toNat ++ [V.ref a] ++ (as.map V.ref).drop ((j : Nat) : Int).toNat = (as.take j ++ [a] ++ as.drop j).map V.ref := by
    rw [Int.toNat_natCast, List.map_append, List.map_append, List.map_take, List.map_drop]
    rfl
  refine ⟨_, rfl, .inl ⟨rfl, _, SqL.of iA11⟩, _, rfl, _, rfl, A, _, (j : Nat), _, rfl, rfl, iA11, ?_, Int.natCast_nonneg _, by omega, ?_⟩
  · rw [List.length_map]
    exact smallt _ (by omega)
  rw [es]
  have c12 : Chg [A] H11 (upd H11 A (.lst ((as.take j ++ [a] ++ as.drop j).map V.ref))) := Chg.upd Chg.refl (List.mem_singleton_self A)
  have iA12 : upd H11 A (.lst ((as.take j ++ [a] ++ as.drop j).map V.ref)) A = _ := upd_same
  have iL12 : upd H11 A (.lst ((as.take j ++ [a] ++ as.drop j).map V.ref)) L = _ := (upd_ne hin.nAL.symm).trans hL11
  have e12 := del_chg c12 AS
  generalize upd H11 A (.lst ((as.take j ++ [a] ++ as.drop j).map V.ref)) = H12 at c12 iA12 iL12 e12
  have e612 : Same (del S H6) (del S H12) := fun b o e => e12 _ _ (e11 _ _ (del_chg (Chg.of (fun b o e => e710 _ _ (e7 _ _ e)) : Chg [] H6 H10) (fun _ h => by cases h) _ _ e))
  have e1012 : Same (del S H10) (del S H12) := fun b o e => e12 _ _ (e11 _ _ e)
  have li11 : Lists S H11 := in10.li.chg c11 fun b hb => by
    rw [List.mem_singleton.mp hb]
    exact ⟨_, hL11⟩
  have li12 : Lists S H12 := li11.chg c12 fun b hb => by
    rw [List.mem_singleton.mp hb]
    exact ⟨_, iA12⟩
  have hqf : ParcelAt K (del S H12) q r := (hq10.del fun b hb => ⟨in6.li.there b hb, in10.li b hb⟩).same e1012
  obtain ⟨gg, a1, n, w1, w2⟩ := in10.pu
  obtain ⟨dx10, hob10⟩ := in10.sd.ob
  refine k _ _ ⟨?_, as.take j ++ [a] ++ as.drop j, rs.take j ++ [r] ++ rs.drop j, ps.take j ++ [q] ++ ps.drop j, ⟨?_, li12, ⟨iA12, iL12, ⟨dx10, e1012 _ _ hob10⟩, paired_ins (Paired.mapP in10.sd.rp fun a r z => z.same e1012) (hra6.same e612) j, paired_ins (Paired.mapP in10.sd.pp fun a r z => z.same e1012) hqf j⟩, ⟨?_, fun r' hr' => ?_, ?_⟩, hin.ip, hin.iA, hin.iL, hin.npA, hin.npL, hin.nAL⟩, fun r' hr' => ?_⟩
  · exact Chg.trans (Chg.trans (Chg.trans (Chg.trans (Chg.trans (Chg.trans (Chg.trans (Chg.trans (Chg.of hs1) (s3.chg.mono (by simp))) (s4.chg.mono (by simp))) (s5.chg.mono (by simp))) (s6.chg.mono (by simp))) (Chg.of e7)) (Chg.of e710)) (c11.mono (by simp))) (c12.mono (by simp))
  · exact PurseAt.mono ⟨gg, a1, n, c12 _ _ (fun z => hin.npA (List.mem_singleton.mp z)) (c11 _ _ (fun z => hin.npL (List.mem_singleton.mp z)) w1), w2⟩ (by omega)
  · rw [((ins_perm rs r j).map Row.name).nodup_iff, List.map_cons, List.nodup_cons]
    exact ⟨hxr, hin.ok.nd⟩
  · rcases List.mem_cons.mp ((ins_perm rs r j).mem_iff.mp hr') with e | e
    · rw [e]
      exact hro
    · exact hin.ok.ok r' e
  · rw [(ins_perm rs r j).length_eq, List.length_cons]
    omega
  · rcases List.mem_cons.mp ((ins_perm rs r j).mem_iff.mp hr') with e | e
    · rw [e, hrn]
      exact hxm.1
    · exact hsub r' e
end
end BX
end
section
set_option Elab.async false
set_option linter.all false
set_option maxRecDepth 100000
set_option maxHeartbeats 4000000
namespace BX
open PySem PySem.Spec PyProof.Rows L2 LamX
open C8 (Cal Mak Met pe_c pe_mk pe_mt pe_mt0 pe_gc)
/-! ### defs that run where no repr runs -/
structure RunG (P : Program) (w : World) (K : PySem.W.Frag) (mg : Str → Option Value) (base : Heap) (k : Nat) (f : Addr) (fd : FuncData) (ps : List Str) (sp : Sp) : Prop where
  len : ∀ vs H Q E, sp vs H Q E → vs.length = ps.length
  run : ∀ (A : Around) (outer : List Env) (s : Shared) (H : Hp) (args : Args) (us : List Value) (vs : List V) (Q : VK) (E : XK), Room k A → A.guards = some [] → Env0 P w K mg base A outer s H → BindsTo s fd args (ps.zip us) → Vals vs us → sp vs H Q E →
    codeAny (model P w) A (.call (.ref f) args) (CR CX0 outer P w H s Q E) s
structure CalG (P : Program) (w : World) (K : PySem.W.Frag) (mg : Str → Option Value) (base : Heap) (k : Nat) (x : Str) (sp : Sp) : Prop where
  ex : ∃ (f : Addr) (fd : FuncData) (ps : List Str), RunG P w K mg base k f fd ps sp ∧ mg x = some (.ref f) ∧ PySem.W.keepIn K (.ref f) = true ∧ Binds K fd ps []
section
variable {P : Program} {w : World} {K : PySem.W.Frag} {mg : Str → Option Value} {base : Heap}
theorem runG_of {G : Type} {args : G → List V} {pre : G → Hp → Prop} {post : G → Hp → V → Hp → Prop} {d : He.DefD} {N ps : List Str} {k : Nat} {fd : FuncData}
    (F : FunD K d.name d.qual d.params d.body d.scope (d.dvs K) (d.kws K) (He.fAd K d.at_) fd)
    (S : FnScope N ps d.scope) (len : ∀ g, (args g).length = ps.length)
    (hbody : ∀ (cdv : Value) (A : Around) (outer : List Env) (s : Shared) (H : Hp) (Q : VK) (E : XK) (f : Addr) (g : G), A.guards = some [] → Room k (A.deeper (envOfC d.qual d.scope s.heap.objs.size f cdv)) → pre g H → (∀ v H', post g H v H' → Q v H') →
      ∃ t, PSs (cxOf CX0 P w K mg base N d.qual d.scope f cdv A outer s H E).nox d.body t ∧ t { nx := fun _ H' => Q .non H', rt := Q } (L2.start N (args g)) H) : RunG P w K mg base (k + 1) (He.fAd K d.at_) fd ps (SpG args pre post) := by
  obtain ⟨oc, od, dV, kV, doc, pm, an, cdv, ct, osl, hfd, lk, hcd, _, _⟩ := F.ex
  subst hfd
  refine ⟨fun vs H Q E h => ?_, fun A outer s H args' us vs Q E hr hg e0 hb rv h => ?_⟩
  · obtain ⟨g, rfl, _⟩ := h
    exact len g
  · obtain ⟨g, rfl, hp, q⟩ := h
    refine run_ofS lk hcd S hr e0 hb rv (len g) fun hr' => ?_
    obtain ⟨t, h1, h2⟩ := hbody cdv A outer s H Q E _ g hg hr' hp q
    exact ⟨t, h1.nox, h2⟩
theorem calG {G : Type} {args : G → List V} {pre : G → Hp → Prop} {post : G → Hp → V → Hp → Prop} {x : Str} {d : He.DefD} {N ps : List Str} {k : Nat} (T : TX K mg)
    (F : ∃ fd, FunD K d.name d.qual d.params d.body d.scope (d.dvs K) (d.kws K) (He.fAd K d.at_) fd) (hat : He.fAd K d.at_ = He.ga K x) (hg : mg x = some (.ref (He.ga K x)))
    (hb : BindsD K d ps [])
    (S : FnScope N ps d.scope) (len : ∀ g, (args g).length = ps.length)
    (hbody : ∀ (cdv : Value) (A : Around) (outer : List Env) (s : Shared) (H : Hp) (Q : VK) (E : XK) (f : Addr) (g : G), A.guards = some [] → Room k (A.deeper (envOfC d.qual d.scope s.heap.objs.size f cdv)) → pre g H → (∀ v H', post g H v H' → Q v H') →
      ∃ t, PSs (cxOf CX0 P w K mg base N d.qual d.scope f cdv A outer s H E).nox d.body t ∧ t { nx := fun _ H' => Q .non H', rt := Q } (L2.start N (args g)) H) : CalG P w K mg base (k + 1) x (SpG args pre post) := by
  obtain ⟨fd, F⟩ := F
  obtain ⟨ds, hd, hB⟩ := hb fd F
  cases hd
  have R := runG_of (P := P) (w := w) (mg := mg) (base := base) F S len hbody
  have kp := F.kp
  rw [hat] at R kp
  exact ⟨He.ga K x, fd, ps, R, hg, kp, hB⟩
end
theorem pe_cG {X : Cx} {k j : Nat} {x : Str} {sp : Sp} {p pos : Pos} {e : Expr} {es : List Expr} {t : TA} (c : CalG X.prog X.w X.K X.mg X.base k x sp) (hgd : X.A.guards = some []) (hr : Room j X.A) (hk : k ≤ j) (hg : Gl X x) (ha : PA X (e :: es) t)
    (hdb : (x == ("__debug__" : Str)) = false := by decide) (he : starEach (e :: es) X.env = (false, eval e X.env) :: starEach es X.env := by rfl) (hpl : (backTo pos (starEach es X.env)).any (·.1) = false := by rfl) :
    PE X (.Call (.Name x p) (e :: es) [] pos) (tCall sp [] C8.E0 t) := by
  obtain ⟨f, fd, ps, F, hm, kp, hb⟩ := c.ex
  refine ⟨fun pins s σ H Q I h => ?_⟩
  refine wpAny_Call_Name_kw (ld_glob I hg hm ?_ hdb)
  refine PySem.W.callWith_K (h₀ := X.base) I.ok.mod.kin kp (thn (ha.run pos pins s σ H _ I h) fun us s1 ⟨vs, H1, I1, r, q⟩ => ⟨I1.kIn, ?_⟩) he hpl
  have r2 : Vals (vs ++ []) (us ++ []) := r.append .nil
  have hl : (us ++ []).length = ps.length := by rw [← r2.length]; exact F.len _ _ _ _ q
  refine wpAny_call (codeAny_mono (F.run X.A X.stack s1 H1 ⟨us, []⟩ (us ++ []) (vs ++ []) Q C8.E0 (hr.mono hk) hgd I1.env0 (hb s1 us I1.kIn hl) r2 q) fun r s' hq => ?_)
  cases r with
  | error e => exact pass0 (X := X) pins σ H1 s1 e s' I1 hq
  | ok fl =>
    cases fl with
    | ret u => exact I1.after hq
    | next => exact False.elim hq
    | brk => exact False.elim hq
    | cont => exact False.elim hq
end BX
end
section
set_option Elab.async false
set_option linter.all false
set_option maxRecDepth 100000
set_option maxHeartbeats 4000000
namespace BX
open PySem PySem.Spec PyProof.Rows L2 LamX
open C8 (Cal Mak Met pe_c pe_mk pe_mt pe_mt0 pe_gc)
/-! ### the told, and what is known of it -/
theorem name_short {x : Str} (h : NameOk x) : ShortN x := ⟨h.l8, fun c hc => by
  have h2 : ∀ c ∈ letters.cps.toList, c < 16 ^ 8 := by decide +kernel
  exact h2 _ (h.al _ hc)⟩
def resData (names : List Str) (r : Res) : PyData := resD r.nests (fmap names r.wi) (fmap names r.wo)
structure Bounded (names : List Str) (r : Res) : Prop where
  wi : ∀ x ∈ names, r.wi x ≤ 100000000
  wo : ∀ x ∈ names, r.wo x ≤ 100000000
theorem res_fits {rs : List Row} (ok : RowsOk rs) {spare : Int} {cost : Str → Int} {r : Res} (hs : ShownOk (outOf spare rs) cost r) (hb : Bounded (rs.map Row.name) r) :
    (resData (rs.map Row.name) r).showable = true ∧ (resData (rs.map Row.name) r).depth ≤ 20 ∧ (resData (rs.map Row.name) r).shown.length ≤ sizeLine := by
  have hk := out_keys spare rs
  have nm : ∀ x ∈ rs.map Row.name, ShortN x := fun x hx => by
    obtain ⟨q, hq, e⟩ := List.mem_map.mp hx
    rw [← e]
    exact name_short (ok.ok q hq).nm
  have fl : ∀ f : Str → Int, (fmap (rs.map Row.name) f).length ≤ 12 := fun f => by
    unfold fmap
    rw [List.length_map, List.length_map]
    exact ok.l12
  have fm : ∀ f : Str → Int, ∀ p ∈ fmap (rs.map Row.name) f, p.1 ∈ rs.map Row.name ∧ p.2 = f p.1 := fun f p hp => by
    unfold fmap at hp
    obtain ⟨x, hx, e⟩ := List.mem_map.mp hp
    rw [← e]
    exact ⟨hx, rfl⟩
  refine shown_res hs.l12 (fun n hn => (hs.nests n hn).l12 (tab_out ok spare)) (fun n hn x hx => nm x ?_) (fl _) (fl _) (fun p hp => ?_) (fun p hp => ?_)
  · have := (hs.nests n hn).sub x hx
    rw [hk] at this
    exact this
  · obtain ⟨h1, h2⟩ := fm _ p hp
    have a1 := hs.wi0 p.1 (by rw [hk]; exact h1)
    have a2 := hb.wi p.1 h1
    refine ⟨nm _ h1, ?_⟩
    rw [h2]
    omega
  · obtain ⟨h1, h2⟩ := fm _ p hp
    have a1 := hs.wo0 p.1 (by rw [hk]; exact h1)
    have a2 := hb.wo p.1 h1
    refine ⟨nm _ h1, ?_⟩
    rw [h2]
    omega
section
variable {P : Program} {w : World} {K : PySem.W.Frag} {mg : Str → Option Value} {base : Heap}
theorem rdsL_paired {H : Hp} {as : List Addr} {nn : List (List Str)} (h : Paired (fun q n => H q = some (.lst (n.map V.str))) as nn) (hs : ∀ q ∈ as, q ≠ sysModules) : RdsL P w K H (as.map V.ref) (nn.map fun n => PyData.list (n.map .str)) := by
  induction h with
  | nil => exact rdsL_nil
  | cons r t ih => exact rdsL_cons (rds_lst r (hs _ List.mem_cons_self) (rdsL_map rds_str _)) (ih fun q hq => hs q (List.mem_cons_of_mem _ hq))
theorem rds_res {H : Hp} {t l a b : Addr} {as : List Addr} {names : List Str} {r : Res} (ht : H t = some (.tup [.ref l, .ref a, .ref b])) (h : ResR H l a b as names r) (hl : l ≠ sysModules) (hq : ∀ q ∈ as, q ≠ sysModules) : RdsV P w K H (.ref t) (resData names r) := by
  refine rds_tup ht (rdsL_cons (rds_lst h.ls hl (rdsL_paired h.ns hq)) (rdsL_cons ?_ (rdsL_cons ?_ rdsL_nil)))
  · have := rds_dict (P := P) (w := w) (K := K) (H := H) (f := fun z : Str × Int => z.1) (g := fun z : Str × Int => z.2) (l := fmap names r.wi) h.wa
    exact this
  · have := rds_dict (P := P) (w := w) (K := K) (H := H) (f := fun z : Str × Int => z.1) (g := fun z : Str × Int => z.2) (l := fmap names r.wo) h.wb
    exact this
theorem ResAt.r {H0 H : Hp} {t l a b : Addr} {as : List Addr} {names : List Str} {r : Res} (h : ResAt H0 H t l a b as names r) : ResR H l a b as names r := ⟨h.ls, h.ns, h.wa, h.wb⟩
/-! ### tables, whatever lists and dicts become -/
def Data (H : Hp) (b : Addr) : Prop := (∃ xs, H b = some (.lst xs)) ∨ ∃ kvs, H b = some (.dK kvs)
theorem tabs_chg {T : List (Addr × Str)} {S : List Addr} {H H' : Hp} (t : Tabs T H) (c : Chg S H H') (hS : ∀ b ∈ S, Data H b) : Tabs T H' := fun p hp => by
  obtain ⟨ps, h1, h2, h3⟩ := t p hp
  have out : ∀ {b o}, H b = some o → (∀ xs, o ≠ .lst xs) → (∀ kvs, o ≠ .dK kvs) → b ∉ S := fun {b o} e n1 n2 z => by
    rcases hS b z with ⟨xs, q⟩ | ⟨kvs, q⟩
    · rw [q] at e
      exact n1 xs (Option.some.inj e).symm
    · rw [q] at e
      exact n2 kvs (Option.some.inj e).symm
  refine ⟨ps, c _ _ (out h1 (fun _ z => by cases z) (fun _ z => by cases z)) h1, h2, fun pos cv hcv => ?_⟩
  obtain ⟨cc, e1, e2⟩ := h3 pos cv hcv
  exact ⟨cc, e1, c _ _ (out e2 (fun _ z => by cases z) (fun _ z => by cases z)) e2⟩
theorem RowAt.nt {H : Hp} {a : Addr} {r : Row} (h : RowAt H a r) : RowAt (BX.nt H) a r := by
  obtain ⟨s, l, h1, h2, h3⟩ := h
  exact ⟨s, l, nt_of h1 (fun ps z => by cases z), nt_of h2 (fun ps z => by cases z), nt_of h3 (fun ps z => by cases z)⟩
theorem RowsAt.nt {H : Hp} {l : Addr} {as : List Addr} {rs : List Row} (h : RowsAt H l as rs) : RowsAt (BX.nt H) l as rs := ⟨nt_of h.ls (fun ps z => by cases z), Paired.mapP h.ps fun a r q => q.nt⟩
theorem RowsAt.ext {H H' : Hp} {l : Addr} {as : List Addr} {rs : List Row} (e : ExtN H H') (h : RowsAt H l as rs) : RowsAt H' l as rs := h.nt.same (nt_same e)
theorem putK_len (kvs : List (Key × V)) (k : Key) (v : V) : (putK kvs k v).length ≤ kvs.length + 1 := by
  unfold putK
  split
  · rw [List.length_map]
    omega
  · rw [List.length_append]
    simp
abbrev AG := Hp × Addr × Addr × Addr × Addr × Int × Addr × Addr × Addr × Addr × List Addr × List Addr × List Row × List Addr × List (Str × Int) × Res
def spAgain : Sp := SpG (G := AG) (fun (H0, A, h, L, dc, i, t, l, a, b, qs, as, rs, ps, cs, r) => [.ref A, .ref h, .ref dc, .int i, .ref t])
  (fun (H0, A, h, L, dc, i, t, l, a, b, qs, as, rs, ps, cs, r) H => ExtN H0 H ∧ RowsAt H0 A as rs ∧ HeapR K H0 h L ps rs ∧ H0 dc = some (.dK (dmap V.int cs)) ∧ RowsOk rs ∧ CostsOk cs rs ∧ (cs.map (·.1)).Nodup ∧ (∀ x ∈ cs.map (·.1), SOk x) ∧ 0 ≤ i ∧ i ≤ 1000 ∧ Tabs (tabsT K) H ∧
    ResAt H0 H t l a b qs (rs.map Row.name) r ∧ r = cheapM i rs (costOf cs) ∧ ShownOk (outOf i rs) (costOf cs) r ∧ Bounded (rs.map Row.name) r)
  (fun (H0, A, h, L, dc, i, t, l, a, b, qs, as, rs, ps, cs, r) H v H' => ExtN H0 H' ∧ Tabs (tabsT K) H' ∧ v = .bl true)
abbrev N_law_asked_again : List PySem.Str := ["_law_rows_here", "_law_heap_here", "_law_costs_here", "_law_spare_here", "_law_found", "_law_kept", "_law_nest", "_law_row_here", "_law_handed", "_law_again"]
theorem sc_law_asked_again : FnScope N_law_asked_again ["_law_rows_here", "_law_heap_here", "_law_costs_here", "_law_spare_here", "_law_found"] d_law_asked_again.scope := ⟨rfl, rfl, rfl, by decide +kernel, rfl, by decide +kernel, by decide +kernel⟩
theorem c_law_asked_again (T : TX K mg) (TB : TabB base mg (cPair K).1 (cPair K).2) : CalG P w K mg base 22 "_law_asked_again" (spAgain (K := K)) := by
  refine calG T T.f_law_asked_again rfl T.g_law_asked_again (bindsN rfl fun _ _ _ _ _ _ us hl => match us, hl with | [_, _, _, _, _], _ => rfl) sc_law_asked_again (fun _ => rfl) fun cdv A' outer s0 H Q E f g hgd hr hp k => ?_
  obtain ⟨H0, A, h, L, dc, i, t, l, a, b, qs, as, rs, ps, cs, r⟩ := g
  obtain ⟨x0, hrow0, hheap0, hdc0, ok, cok, hcn, hcsk, hi0, hi1, hT, hres, hre, hsh, hbd⟩ := hp
  obtain ⟨fit1, fit2, fit3⟩ := res_fits ok hsh hbd
  refine ⟨_, (pss_cons (ps_set (i := 5) sc_law_asked_again.nd rfl (Or.inl rfl) (pe_callB (call_reprD hgd hr.units) rfl T.n_repr b_repr (pa_cons (pv 4) pa_nil)))
    (pss_cons (ps_for PassesOwn.never rfl (pi_listK K rfl (pe_ix (ix_tupK K rfl) (pv 4) pe_int (fun _ _ => rfl))) (pg_name (i := 6) sc_law_asked_again.nd rfl (Or.inl rfl)) (pss_one (ps_expr (pe_bm PySem.F.plainAttrs_list PySem.F.slot_list_append PySem.F.type_list_append mt_append (pv 6) (pa_cons pe_str pa_nil)))))
    (pss_cons (ps_for PassesOwn.never rfl (pi_listK K rfl (pv 0)) (pg_name (i := 7) sc_law_asked_again.nd rfl (Or.inl rfl)) (pss_cons (ps_dput (hu_of hr) (pe_ix (ix_tupK K rfl) (pv 4) pe_int (fun _ _ => rfl)) (pe_ix (ix_listK K rfl) (pv 7) pe_int (fun _ _ => rfl)) pe_int rfl)
      (pss_one (ps_dput (hu_of hr) (pe_ix (ix_tupK K rfl) (pv 4) pe_int (fun _ _ => rfl)) (pe_ix (ix_listK K rfl) (pv 7) pe_int (fun _ _ => rfl)) pe_int rfl))))
    (pss_cons (ps_set (i := 8) sc_law_asked_again.nd rfl (Or.inl rfl) (pe_callTy (call_dictD) rfl T.n_dict b_dict (pa_cons (pv 2) pa_nil)))
    (pss_cons (ps_set (i := 9) sc_law_asked_again.nd rfl (Or.inl rfl) (pe_c (c_cheapest T TB) hr (by decide) rfl (pa_cons (pv 1) (pa_cons (pv 8) (pa_cons (pv 3) pa_nil)))))
    (pss_cons (ps_if (PW.pt (pw_or (pt_cmpR (op_ne_dictA hr.units0) (pv 8) (pv 2) (nomark _)) (pw_or1 (pt_cmpR (op_neDK K rfl hr.units) (pe_callTy (call_listD rfl) rfl T.n_list b_list (pa_cons (pv 8) pa_nil)) (pe_callTy (call_listD rfl) rfl T.n_list b_list (pa_cons (pv 2) pa_nil)) (nomark _))))) (pss_one (ps_ret pe_bl)) pss_nil)
    (pss_cons (ps_dput (hu_of hr) (pv 8) pe_str pe_int rfl)
    (pss_one (ps_ret (pe_and (pe_cmpR (op_eq) (pe_callB (call_reprD hgd hr.units) rfl T.n_repr b_repr (pa_cons (pv 9) pa_nil)) (pv 5) (nomark _)) (pe_one (pe_cmpR (op_eqDK K rfl hr.units) (pe_mt0 (c_Heap_names T) hr (by decide) (pv 1)) (pe_lc (own := [("_law_row_here", 7)]) rfl sc_law_asked_again.nd (pi_listK K rfl (pv 0)) (blkOk_by (own := [("_law_row_here", 7)]) (N := N_law_asked_again) (sc := d_law_asked_again.scope) (by decide +kernel)) (fun _ _ _ _ _ => (pg_name (i := 7) sc_law_asked_again.nd rfl (Or.inl rfl))) (fun _ _ _ _ _ => pts_nil) (fun _ _ _ _ _ => (pe_ix (ix_listK K rfl) (pv 7) pe_int (fun _ _ => rfl)))) (nomark _))))))))))))), ?_⟩
  have hR := hres.r
  have qlen : qs.length = r.nests.length := Paired.length hres.ns
  have q12 : qs.length ≤ 12 := by
    rw [qlen]
    exact hsh.l12
  have r12 := ok.l12
  have hra0 := hrow0.ls
  -- what the told stands at was not there before
  have fresh : ∀ y u, H0 y = some u → (∀ ps, u ≠ .tbl ps) → y ∉ a :: b :: qs := fun y u e n z => by
    have : Fresh H0 y := by
      rcases List.mem_cons.mp z with q | q
      · rw [q]
        exact hres.fa
      · rcases List.mem_cons.mp q with q | q
        · rw [q]
          exact hres.fb
        · exact hres.fs y q
    obtain ⟨ps, e2⟩ := this u e
    exact n ps e2
  have dat : ∀ y ∈ a :: b :: qs, Data H y := fun y z => by
    rcases List.mem_cons.mp z with q | q
    · rw [q]
      exact .inr ⟨_, hres.wa⟩
    · rcases List.mem_cons.mp q with q | q
      · rw [q]
        exact .inr ⟨_, hres.wb⟩
      · obtain ⟨n, e⟩ := paired_memL hres.ns q
        exact .inl ⟨_, e⟩
  have tM : t ∉ a :: b :: qs := fun z => by
    rcases dat t z with ⟨_, e⟩ | ⟨_, e⟩ <;> rw [hres.tp] at e <;> cases e
  have aq : a ∉ qs := fun z => by
    obtain ⟨n, e⟩ := paired_memL hres.ns z
    rw [hres.wa] at e
    cases e
  have bq : b ∉ qs := fun z => by
    obtain ⟨n, e⟩ := paired_memL hres.ns z
    rw [hres.wb] at e
    cases e
  have keepN : ∀ H', Chg (a :: b :: qs) H H' → ExtN H0 H' := fun H' c y u e n => c _ _ (fresh y u e n) (x0 y u e n)
  refine ⟨_, rfl, t, resData (rs.map Row.name) r, rfl, rds_res hres.tp hR hres.nl hres.nq, fit1, fit2, fit3, ?_⟩
  let σ5 : L2.St := (L2.start N_law_asked_again [V.ref A, .ref h, .ref dc, .int i, .ref t]).set 5 (some (.str (resData (rs.map Row.name) r).shown))
  -- the nests
  refine ⟨_, rfl, t, _, 0, _, rfl, rfl, SqT.of hres.tp, rfl, l, rfl, ⟨_, SqL.of hres.ls⟩, ?_⟩
  refine for_it (wl (K := K) (a := l) qs V.ref) (fun i σ H' => Chg qs H H' ∧ Sl [6] σ5 σ ∧ ∀ q ∈ qs, ∃ xs, H' q = some (.lst xs) ∧ xs.length ≤ 12 + i)
    ⟨Chg.refl, Sl.refl, fun q hq => ?_⟩ (fun i σ H' _ h => SqL.of (h.1 _ _ hres.ql hres.ls)) ?_ ?_
  · obtain ⟨j, hj⟩ := List.mem_iff_getElem?.mp hq
    have hjn : j < r.nests.length := by
      rw [← qlen]
      exact (List.getElem?_eq_some_iff.mp hj).1
    obtain ⟨q', h1, h2⟩ := paired_at hres.ns (List.getElem?_eq_getElem hjn)
    rw [hj] at h1
    cases h1
    refine ⟨_, h2, ?_⟩
    rw [List.length_map]
    have := (hsh.nests _ (List.getElem_mem hjn)).l12 (tab_out ok i)
    omega
  · rintro j v σ H1 H2 hj ⟨hc, hσ, hq⟩ ⟨hH, q, hqj, rfl⟩
    subst hH
    have hqm : q ∈ qs := List.mem_of_getElem? hqj
    obtain ⟨xs, hxs, hxl⟩ := hq q hqm
    refine ⟨_, hσ.s, .inl ⟨rfl, _, SqL.of hxs⟩, q, _, _, rfl, rfl, hxs, smallt _ (by omega), Chg.upd hc hqm, hσ.set (by decide), fun y hy => ?_⟩
    by_cases e : y = q
    · rw [e]
      exact ⟨_, upd_same, by rw [List.length_append]; simp only [List.length_singleton]; omega⟩
    · obtain ⟨ys, h1, h2⟩ := hq y hy
      exact ⟨ys, (upd_ne e).trans h1, by omega⟩
  rintro σ1 H1 ⟨hc1, hσ1, hq1⟩
  have cM1 : Chg (a :: b :: qs) H H1 := hc1.mono fun y hy => List.mem_cons_of_mem _ (List.mem_cons_of_mem _ hy)
  have ha1 := hc1 _ _ aq hres.wa
  have hb1 := hc1 _ _ bq hres.wb
  have zl : as.length = rs.length := hrow0.len
  have hzw : as.map V.ref = (as.zip rs).map fun z => V.ref z.1 := by
    conv => lhs; rw [← List.map_fst_zip (Nat.le_of_eq zl)]
    rw [List.map_map]
    rfl
  have hA : ∀ H', ExtN H0 H' → H' A = some (.lst ((as.zip rs).map fun z => V.ref z.1)) := fun H' e => by
    rw [← hzw]
    exact e _ _ hra0 (fun ps z => by cases z)
  have fl12 : ∀ f : Str → Int, (dmap V.int (fmap (rs.map Row.name) f)).length ≤ 12 := fun f => by
    unfold dmap fmap
    rw [List.length_map, List.length_map, List.length_map]
    exact r12
  have hσ1' : Sl [6, 7, 8, 9] σ5 σ1 := ⟨hσ1.len, fun j hj => hσ1.at' j fun q => hj (by rw [List.mem_singleton.mp q]; simp)⟩
  -- the dicts
  refine ⟨_, hσ1.g 0 (by decide) rfl, A, rfl, ⟨_, SqL.of (hA _ (keepN _ cM1))⟩, ?_⟩
  refine for_it (wl (K := K) (a := A) (as.zip rs) fun z => V.ref z.1) (fun i σ H' => Chg (a :: b :: qs) H H' ∧ Sl [6, 7, 8, 9] σ5 σ ∧ (∃ kvs, H' a = some (.dK kvs) ∧ kvs.length ≤ 12 + i) ∧ ∃ kvs, H' b = some (.dK kvs) ∧ kvs.length ≤ 12 + i)
    ⟨cM1, hσ1', ⟨_, ha1, by have := fl12 r.wi; omega⟩, ⟨_, hb1, by have := fl12 r.wo; omega⟩⟩ (fun i σ H' _ h => SqL.of (hA _ (keepN _ h.1))) ?_ ?_
  · rintro j v σ H2 H3 hj ⟨hc, hσ, ⟨ka, hka, hkal⟩, ⟨kb, hkb, hkbl⟩⟩ ⟨hH, ⟨ra, rr⟩, hz, rfl⟩
    subst hH
    have hj12 : j < 12 := by
      rw [List.length_zip] at hj
      omega
    have hrr := (paired_zip (hrow0.ext (keepN _ hc)).ps (List.mem_of_getElem? hz))
    obtain ⟨sx, lx, g1, g2, g3⟩ := hrr
    have ht3 := hc _ _ tM hres.tp
    have hσ2 : Sl [6, 7, 8, 9] σ5 (σ.set 7 (some (.ref ra))) := hσ.set (by decide)
    refine ⟨_, hσ2.g 4 (by decide) rfl, t, _, 1, _, rfl, rfl, SqT.of ht3, rfl, _, hσ.s, ra, _, 0, _, rfl, rfl, SqL.of g1, rfl, a, _, rfl, DPut.k (k := Sum.inr rr.name) hka (smallt _ (by omega)), ?_⟩
    have c4 : Chg (a :: b :: qs) H (upd H3 a (.dK (putK ka (Sum.inr rr.name) (.int 0)))) := Chg.upd hc (by simp)
    have ht4 := c4 _ _ tM hres.tp
    have g4 : upd H3 a (.dK (putK ka (Sum.inr rr.name) (.int 0))) ra = _ := (upd_ne (ne_of g1 hka (by intro z; cases z))).trans g1
    have hkb4 : upd H3 a (.dK (putK ka (Sum.inr rr.name) (.int 0))) b = _ := (upd_ne hres.nab.symm).trans hkb
    refine ⟨_, hσ2.g 4 (by decide) rfl, t, _, 2, _, rfl, rfl, SqT.of ht4, rfl, _, hσ.s, ra, _, 0, _, rfl, rfl, SqL.of g4, rfl, b, _, rfl, DPut.k (k := Sum.inr rr.name) hkb4 (smallt _ (by omega)), ?_⟩
    refine ⟨Chg.upd c4 (by simp), hσ2, ⟨_, (upd_ne hres.nab).trans upd_same, ?_⟩, ⟨_, upd_same, ?_⟩⟩
    · have := putK_len ka (Sum.inr rr.name) (.int 0)
      omega
    · have := putK_len kb (Sum.inr rr.name) (.int 1)
      omega
  rintro σ2 H2 ⟨hc2, hσ2, _, _⟩
  have x2 := keepN _ hc2
  have T2 : Tabs (tabsT K) H2 := tabs_chg hT hc2 dat
  have hdc2 := x2 _ _ hdc0 (fun ps z => by cases z)
  -- asked again
  refine ⟨_, hσ2.g 2 (by decide) rfl, dc, _, rfl, .inl hdc2, fun hd hhd => ?_⟩
  have e3 := same_new hhd (.dK (dmap V.int cs))
  have i3 : upd H2 hd (.dK (dmap V.int cs)) hd = some (.dK (dmap V.int cs)) := upd_same
  have x3 : ExtN H0 (upd H2 hd (.dK (dmap V.int cs))) := x2.trans (ext_of e3)
  have T3 := T2.ext e3
  have hσ3 : Sl [6, 7, 8, 9] σ5 (σ2.set 8 (some (.ref hd))) := hσ2.set (by decide)
  have s38 : (σ2.set 8 (some (.ref hd)))[8]? = some (some (.ref hd)) := hσ2.s
  have hd0 : ∀ u, H0 hd = some u → ∃ ps, u = .tbl ps := fun u e => by
    by_cases n : ∃ ps, u = .tbl ps
    · exact n
    · have := x2 _ _ e fun ps z => n ⟨ps, z⟩
      rw [hhd] at this
      cases this
  have hdc3 := e3 _ _ hdc2
  generalize upd H2 hd (.dK (dmap V.int cs)) = H3 at e3 i3 x3 T3 hdc3
  refine ⟨_, hσ3.g 1 (by decide) rfl, _, s38, _, hσ3.g 3 (by decide) rfl, (h, hd, L, ps, rs, cs, i), rfl, ⟨hheap0.ext x3, ok, i3, cok, hi0, hi1, T3⟩, fun v H4 hv => ?_⟩
  obtain ⟨x34, T4, t2, l2, a2, b2, q2, rfl, hres2⟩ := hv
  have x4 : ExtN H0 H4 := x3.trans x34
  rw [← hre] at hres2
  have i4 := x34 _ _ i3 (fun ps z => by cases z)
  have hdc4 := x34 _ _ hdc3 (fun ps z => by cases z)
  have hσ4 : Sl [6, 7, 8, 9] σ5 ((σ2.set 8 (some (.ref hd))).set 9 (some (.ref t2))) := hσ3.set (by decide)
  have s48 : ((σ2.set 8 (some (.ref hd))).set 9 (some (.ref t2)))[8]? = some (some (.ref hd)) := by
    rw [List.getElem?_set_ne (by decide)]
    exact s38
  have s49 : ((σ2.set 8 (some (.ref hd))).set 9 (some (.ref t2)))[9]? = some (some (.ref t2)) := hσ3.s
  have cl12 : (dmap V.int cs).length ≤ 12 := by
    unfold dmap
    rw [List.length_map, cok.len]
    exact r12
  have hkeys : (dmap V.int cs).map (fun kv => kV kv.1) = (cs.map (·.1)).map V.str := by
    unfold dmap
    rw [List.map_map, List.map_map]
    rfl
  refine ⟨_, s48, _, hσ4.g 2 (by decide) rfl, hd, dc, _, _, rfl, rfl, i4, hdc4, rfl, fun p hp => ?_, false, rfl, iteF ?_⟩
  · obtain ⟨q, hq, e⟩ := List.mem_map.mp hp
    rw [← e]
    refine ⟨?_, rfl⟩
    rw [valV_dmap, KM.look_of_mem hcn (v := q.2) (by exact hq)]
    rfl
  refine ⟨_, s48, hd, _, rfl, .inl i4, fun l5 hl5 => ?_⟩
  rw [hkeys]
  have e5 := same_new hl5 (.lst ((cs.map (·.1)).map V.str))
  refine ⟨_, hσ4.g 2 (by decide) rfl, dc, _, rfl, .inl (e5 _ _ hdc4), fun l6 hl6 => ?_⟩
  rw [hkeys]
  have e6 := same_new hl6 (.lst ((cs.map (·.1)).map V.str))
  refine ⟨_, _, dp_strs (e6 _ _ upd_same), dp_strs upd_same, sh_strs hcsk, sh_strs hcsk, false, by rw [eqv_self_strs]; rfl, iteF ?_⟩
  have e46 : Same H4 (upd (upd H4 l5 (.lst ((cs.map (·.1)).map V.str))) l6 (.lst ((cs.map (·.1)).map V.str))) := fun y u e => e6 _ _ (e5 _ _ e)
  generalize upd (upd H4 l5 (.lst ((cs.map (·.1)).map V.str))) l6 (.lst ((cs.map (·.1)).map V.str)) = H6 at e46
  have i6 := e46 _ _ i4
  have T6 := T4.ext e46
  refine ⟨_, s48, hd, _, rfl, DPut.k (k := Sum.inr "more") i6 (smallt _ (by omega)), ?_⟩
  have T7 : Tabs (tabsT K) (upd H6 hd (.dK (putK (dmap V.int cs) (Sum.inr "more") (.int 5)))) := tabs_chg T6 (S := [hd]) (Chg.upd Chg.refl (List.mem_singleton_self hd)) fun y hy => by
    rw [List.mem_singleton.mp hy]
    exact .inr ⟨_, i6⟩
  have x7 : ExtN H0 (upd H6 hd (.dK (putK (dmap V.int cs) (Sum.inr "more") (.int 5)))) := fun y u e n => by
    rw [upd_ne (fun z => by
      rw [z] at e
      obtain ⟨ps, q⟩ := hd0 u e
      exact n ps q)]
    exact e46 _ _ (x4 y u e n)
  have r6 := hres2.r.same e46
  have o7 : ∀ {y o}, H6 y = some o → (∀ kvs, o ≠ .dK kvs) → upd H6 hd (.dK (putK (dmap V.int cs) (Sum.inr "more") (.int 5))) y = some o := fun {y o} e n => by
    rw [upd_ne (fun z => by
      rw [z, i6] at e
      exact n _ (Option.some.inj e).symm)]
    exact e
  have nf : ∀ {y}, Fresh H3 y → y ≠ hd := fun {y} f z => by
    rw [z] at f
    obtain ⟨ps, q⟩ := f _ i3
    cases q
  have r7 : ResR (upd H6 hd (.dK (putK (dmap V.int cs) (Sum.inr "more") (.int 5)))) l2 a2 b2 q2 (rs.map Row.name) r :=
    ⟨o7 r6.ls (fun _ z => by cases z), Paired.mapP r6.ns fun q n e => o7 e (fun _ z => by cases z), (upd_ne (nf hres2.fa)).trans r6.wa, (upd_ne (nf hres2.fb)).trans r6.wb⟩
  have ht7 := o7 (e46 _ _ hres2.tp) (fun _ z => by cases z)
  generalize upd H6 hd (.dK (putK (dmap V.int cs) (Sum.inr "more") (.int 5))) = H7 at T7 x7 r7 ht7
  refine ⟨_, s49, t2, resData (rs.map Row.name) r, rfl, rds_res ht7 r7 hres2.nl hres2.nq, fit1, fit2, fit3, _, hσ4.g 5 (by decide) rfl, rfl, true, congrArg V.bl (decide_eq_true rfl), iteT ?_⟩
  have hheap7 := hheap0.ext x7
  obtain ⟨dx, hob⟩ := hheap7.ob
  refine ⟨_, hσ4.g 1 (by decide) rfl, h, dx, _, rfl, hob, rfl, (h, L, ps, rs), rfl, ⟨hheap7, r12⟩, fun v H8 hv => ?_⟩
  obtain ⟨e8, l8, rfl, hl80, hl8⟩ := hv
  have x8 : ExtN H0 H8 := x7.trans (ext_of e8)
  have hrow8 := hrow0.ext x8
  have hA8 := hA _ x8
  refine ⟨_, hσ4.g 0 (by decide) rfl, A, rfl, ⟨_, SqL.of hA8⟩, fun D hD => ?_⟩
  refine lc_map (J := Itl _ A) (l := as.zip rs) (fun z => V.ref z.1) (fun z => V.str z.2.name) (wl (as.zip rs) fun z => V.ref z.1) (fun _ e => sg hA8 e) (by rw [List.length_zip]; omega) hD ?_ gN ?_
  · rintro ⟨ra, rr⟩ H' hm hs Qy y
    obtain ⟨sx, lx, g1, _⟩ := (paired_zip hrow8.ps hm).same hs
    exact ⟨wipe1, _, hσ4.s1, ra, _, 0, _, rfl, rfl, SqL.of g1, rfl, y _ fun _ _ h => h⟩
  intro H9 hs9 hD9
  have hD9' : H9 D = some (.lst ((rs.map Row.name).map V.str)) := by
    rw [hD9]
    conv => rhs; rw [← List.map_snd_zip (Nat.le_of_eq zl.symm)]
    rw [List.map_map, List.map_map]
    rfl
  have hsk : ∀ x ∈ rs.map Row.name, SOk x := fun x hx => rows_sok ok i x (by rw [out_keys]; exact hx)
  refine ⟨_, _, dp_strs (hs9 _ _ hl8), dp_strs hD9', sh_strs hsk, sh_strs hsk, k _ _ ⟨x8.trans (ext_of hs9), (T7.ext e8).ext hs9, by rw [eqv_self_strs]⟩⟩
end
end BX
end
section
set_option Elab.async false
set_option linter.all false
set_option maxRecDepth 100000
set_option maxHeartbeats 4000000
namespace BX
open PySem PySem.Spec PyProof.Rows L2
/-! ### lists without doubles -/
theorem perm_of_mem {α : Type} [DecidableEq α] : ∀ {l m : List α}, l.Nodup → m.Nodup → (∀ x, x ∈ l ↔ x ∈ m) → l.Perm m
  | [], m, _, _, h => by
    cases m with
    | nil => exact .refl _
    | cons y m => exact absurd ((h y).mpr List.mem_cons_self) List.not_mem_nil
  | x :: l, m, hl, hm, h => by
    rw [List.nodup_cons] at hl
    have hx : x ∈ m := (h x).mp List.mem_cons_self
    have p := List.perm_cons_erase hx
    have q : l.Perm (m.erase x) := perm_of_mem hl.2 (hm.erase x) fun y => by
      rw [List.Nodup.mem_erase_iff hm]
      constructor
      · intro hy
        exact ⟨fun e => hl.1 (e ▸ hy), (h y).mp (List.mem_cons_of_mem x hy)⟩
      · rintro ⟨h1, h2⟩
        exact (List.mem_cons.mp ((h y).mpr h2)).resolve_left h1
    exact (q.cons x).trans p.symm
theorem sum_perm {l m : List Int} (h : l.Perm m) : l.sum = m.sum := by
  induction h with
  | nil => rfl
  | cons x _ ih => rw [List.sum_cons, List.sum_cons, ih]
  | swap x y l =>
    rw [List.sum_cons, List.sum_cons, List.sum_cons, List.sum_cons]
    omega
  | trans _ _ a b => exact a.trans b
theorem sum_add (f g : Str → Int) : ∀ l : List Str, (l.map fun x => f x + g x).sum = (l.map f).sum + (l.map g).sum
  | [] => rfl
  | x :: l => by
    rw [List.map_cons, List.sum_cons, List.map_cons, List.sum_cons, List.map_cons, List.sum_cons, sum_add f g l]
    omega
theorem sum_const (δ : Int) : ∀ l : List Str, (l.map fun _ => δ).sum = δ * l.length
  | [] => by simp
  | x :: l => by
    rw [List.map_cons, List.sum_cons, sum_const δ l, List.length_cons]
    have : ((l.length + 1 : Nat) : Int) = (l.length : Int) + 1 := by omega
    rw [this, Int.mul_add]
    omega
theorem sum_filter (p : Str → Bool) (f : Str → Int) : ∀ l : List Str, (l.map fun x => if p x = true then f x else 0).sum = ((l.filter p).map f).sum
  | [] => rfl
  | x :: l => by
    rw [List.map_cons, List.sum_cons, sum_filter p f l, List.filter_cons]
    cases p x with
    | true => rfl
    | false =>
      rw [if_neg (by decide), if_neg (by decide)]
      omega
theorem sum_mem {L M : List Str} (hL : L.Nodup) (hM : M.Nodup) (hs : ∀ x ∈ M, x ∈ L) (δ : Int) : (L.map fun x => if x ∈ M then δ else 0).sum = δ * M.length := by
  have e : (L.map fun x => if x ∈ M then δ else 0) = L.map fun x => if (decide (x ∈ M)) = true then (fun _ => δ) x else 0 := List.map_congr_left fun x _ => by
    by_cases h : x ∈ M
    · rw [if_pos h, if_pos (decide_eq_true h)]
    · rw [if_neg h, if_neg (by rw [decide_eq_false h]; decide)]
  rw [e, sum_filter, sum_const]
  have p : (L.filter fun x => decide (x ∈ M)).Perm M := perm_of_mem (hL.filter _) hM fun x => by
    rw [List.mem_filter, decide_eq_true_iff]
    exact ⟨fun z => z.2, fun z => ⟨hs x z, z⟩⟩
  rw [p.length_eq]
/-! ### what the reaching reaches -/
structure RI2 (out : Str → List Str) (w : KM.W Str) (ones0 : List Str) (r : RS) : Prop where
  p1 : ∀ x ∈ ones0, x ∈ r.ones
  p2 : ∀ x ∈ r.ones, x ∈ ones0 ∨ ∃ z ∈ r.others, KM.look w z = some x
  p3 : ∀ z ∈ r.others, ∀ m, KM.look w z = some m → m ∈ r.ones
def Hole (out : Str → List Str) (y : Str) (r : RS) : Prop := ∀ x ∈ r.ones, x ∈ r.waiting ∨ x = y ∨ ∀ z ∈ out x, z ∈ r.others
def Cov (out : Str → List Str) (r : RS) : Prop := ∀ x ∈ r.ones, x ∈ r.waiting ∨ ∀ z ∈ out x, z ∈ r.others
section
variable {out : Str → List Str} {U S ones0 : List Str} {w : KM.W Str}
theorem step2 {r : RS} {y z : Str} (h : RI2 out w ones0 r) (c : Hole out y r) (hS : KM.Closed out w S) (hz : z ∈ S) : RI2 out w ones0 (rStep w r z) ∧ Hole out y (rStep w r z) ∧ z ∈ (rStep w r z).others ∧ (∀ u ∈ r.others, u ∈ (rStep w r z).others) := by
  unfold rStep
  by_cases hm : z ∈ r.others
  · rw [if_pos hm]
    exact ⟨h, c, hm, fun _ h => h⟩
  · rw [if_neg hm]
    obtain ⟨m, e, _⟩ := hS z hz
    have ev : wVal w z = m := by
      unfold wVal
      rw [e]
      rfl
    rw [ev]
    refine ⟨⟨fun x hx => List.mem_append_left _ (h.p1 x hx), fun x hx => ?_, fun u hu m' hm' => ?_⟩, fun x hx => ?_, List.mem_append_right _ (List.mem_singleton_self z), fun u hu => List.mem_append_left _ hu⟩
    · rcases List.mem_append.mp hx with q | q
      · rcases h.p2 x q with a | ⟨u, a, b⟩
        · exact .inl a
        · exact .inr ⟨u, List.mem_append_left _ a, b⟩
      · rw [List.mem_singleton.mp q]
        exact .inr ⟨z, List.mem_append_right _ (List.mem_singleton_self z), e⟩
    · rcases List.mem_append.mp hu with q | q
      · exact List.mem_append_left _ (h.p3 u q m' hm')
      · rw [List.mem_singleton.mp q, e] at hm'
        cases hm'
        exact List.mem_append_right _ (List.mem_singleton_self _)
    · rcases List.mem_append.mp hx with q | q
      · rcases c x q with a | a | a
        · exact .inl (List.mem_append_left _ a)
        · exact .inr (.inl a)
        · exact .inr (.inr fun u hu => List.mem_append_left _ (a u hu))
      · exact .inl (List.mem_append_right _ q)
theorem fold2 {y : Str} (hw : WI U w) (hS : KM.Closed out w S) : ∀ (zs : List Str) (r : RS), (∀ z ∈ zs, z ∈ S) → RInv out U w S r → RI2 out w ones0 r → Hole out y r →
    RInv out U w S (zs.foldl (rStep w) r) ∧ RI2 out w ones0 (zs.foldl (rStep w) r) ∧ Hole out y (zs.foldl (rStep w) r) ∧ (∀ z ∈ zs, z ∈ (zs.foldl (rStep w) r).others) ∧ (∀ u ∈ r.others, u ∈ (zs.foldl (rStep w) r).others) ∧ rMu U (zs.foldl (rStep w) r) ≤ rMu U r
  | [], r, _, a, b, c => ⟨a, b, c, (fun _ h => by cases h), fun _ h => h, Nat.le_refl _⟩
  | z :: zs, r, hs, a, b, c => by
    have hz := hs z List.mem_cons_self
    obtain ⟨a1, m1⟩ := a.step hw hS hz
    obtain ⟨b1, c1, d1, e1⟩ := step2 b c hS hz
    obtain ⟨a2, b2, c2, d2, e2, m2⟩ := fold2 hw hS zs (rStep w r z) (fun u hu => hs u (List.mem_cons_of_mem z hu)) a1 b1 c1
    refine ⟨a2, b2, c2, fun u hu => ?_, fun u hu => e2 u (e1 u hu), Nat.le_trans m2 m1⟩
    rcases List.mem_cons.mp hu with q | q
    · rw [q]
      exact e2 z d1
    · exact d2 u q
theorem go2 (hw : WI U w) (hS : KM.Closed out w S) : ∀ (n : Nat) (r : RS), rMu U r < n → RInv out U w S r → RI2 out w ones0 r → Cov out r →
    RInv out U w S (rGo out w n r) ∧ RI2 out w ones0 (rGo out w n r) ∧ ∀ x ∈ (rGo out w n r).ones, ∀ z ∈ out x, z ∈ (rGo out w n r).others
  | 0, r, h, _, _, _ => absurd h (Nat.not_lt_zero _)
  | n + 1, r, h, a, b, c => by
    cases hl : r.waiting.getLast? with
    | none =>
      have h0 : r.waiting = [] := List.getLast?_eq_none_iff.mp hl
      rw [rGo_end h0]
      refine ⟨a, b, fun x hx => ?_⟩
      rcases c x hx with q | q
      · rw [h0] at q
        cases q
      · exact q
    | some y =>
      rw [rGo_pop hl]
      have hym : y ∈ r.waiting := List.mem_of_getLast? hl
      have hne : r.waiting ≠ [] := fun z => by
        rw [z] at hl
        cases hl
      have hsp : r.waiting = r.waiting.dropLast ++ [y] := by
        have := List.dropLast_concat_getLast hne
        rw [List.getLast?_eq_some_getLast hne] at hl
        rw [← Option.some.inj hl]
        exact this.symm
      have a0 : RInv out U w S ⟨r.ones, r.others, r.waiting.dropLast⟩ := ⟨a.nd, a.sub, fun z hz => a.wait z (List.dropLast_subset _ hz), a.one⟩
      have b0 : RI2 out w ones0 ⟨r.ones, r.others, r.waiting.dropLast⟩ := ⟨b.p1, b.p2, b.p3⟩
      have c0 : Hole out y ⟨r.ones, r.others, r.waiting.dropLast⟩ := fun x hx => by
        rcases c x hx with q | q
        · rw [hsp] at q
          rcases List.mem_append.mp q with q | q
          · exact .inl q
          · exact .inr (.inl (List.mem_singleton.mp q))
        · exact .inr (.inr q)
      obtain ⟨a2, b2, c2, d2, e2, m2⟩ := fold2 (y := y) hw hS (out y) ⟨r.ones, r.others, r.waiting.dropLast⟩ (a.wait y hym).2 a0 b0 c0
      have hmu : rMu U ⟨r.ones, r.others, r.waiting.dropLast⟩ + 1 = rMu U r := by
        unfold rMu
        rw [List.length_dropLast]
        have : 0 < r.waiting.length := List.length_pos_iff.mpr hne
        show 2 * (U.length - r.others.length) + (r.waiting.length - 1) + 1 = _
        omega
      refine go2 hw hS n _ (by omega) a2 b2 fun x hx => ?_
      rcases c2 x hx with q | q | q
      · exact .inl q
      · rw [q]
        exact .inr d2
      · exact .inr q
end
end BX
end
section
set_option Elab.async false
set_option linter.all false
set_option maxRecDepth 100000
set_option maxHeartbeats 4000000
namespace BX
open PySem PySem.Spec PyProof.Rows L2
section
variable {o : List (Str × List Str)}
/-- the matched ones, told by values -/
def vals (w : KM.W Str) : List Str := w.map (·.2)
theorem wi_of {ns : List Str} (ok : TabOk o) (hn : ns.Nodup) (hs : ∀ x ∈ ns, x ∈ o.map (·.1)) : WI (o.map (·.1)) (matchM (outT o) ns) := by
  have mi := match_mi ok ns hn
  refine ⟨mi.mw.nd, fun x y e => ⟨mi.mw.ks x (KM.mem_of_look e), hs y (mi.vs y ?_)⟩⟩
  exact List.mem_map_of_mem (f := (·.2)) (KM.look_some_mem e)
/-- what the reaching gives at last -/
structure Reach (o : List (Str × List Str)) (ns : List Str) : Prop where
  nd : (reachAt (outT o) ns).others.Nodup
  sub : ∀ z ∈ (reachAt (outT o) ns).others, z ∈ o.map (·.1)
  cov : ∀ x ∈ (reachAt (outT o) ns).ones, ∀ z ∈ outT o x, z ∈ (reachAt (outT o) ns).others
  cnt : (ns.filter fun x => decide (x ∉ (reachAt (outT o) ns).ones)).length + (reachAt (outT o) ns).others.length = (vals (matchM (outT o) ns)).length
theorem look_inj {w : KM.W Str} (hv : (vals w).Nodup) {a b x : Str} (h1 : KM.look w a = some x) (h2 : KM.look w b = some x) : a = b := by
  have m1 := KM.look_some_mem h1
  have m2 := KM.look_some_mem h2
  obtain ⟨i, hi⟩ := List.mem_iff_getElem?.mp m1
  obtain ⟨j, hj⟩ := List.mem_iff_getElem?.mp m2
  have e1 : (vals w)[i]? = some x := by
    unfold vals
    rw [List.getElem?_map, hi]
    rfl
  have e2 : (vals w)[j]? = some x := by
    unfold vals
    rw [List.getElem?_map, hj]
    rfl
  have := nodup_at hv e1 e2
  subst this
  rw [hi] at hj
  exact congrArg Prod.fst (Option.some.inj hj)
theorem reach_ok {ns : List Str} (ok : TabOk o) (hn : ns.Nodup) (hs : ∀ x ∈ ns, x ∈ o.map (·.1)) : Reach o ns := by
  have mi := match_mi ok ns hn
  have hw := wi_of ok hn hs
  obtain ⟨S, hS, hd⟩ := match_dead ok hn
  have hvn : (vals (matchM (outT o) ns)).Nodup := mi.vn
  have hvs : ∀ x ∈ vals (matchM (outT o) ns), x ∈ ns := mi.vs
  have k12 : (o.map (·.1)).length ≤ 12 := by
    rw [List.length_map]
    exact ok.l12
  have n12 : ns.length ≤ 12 := Nat.le_trans (KM.nodup_len hn hs) k12
  have o12 : (onesOf (matchM (outT o) ns) ns).length ≤ 12 := Nat.le_trans (List.length_filter_le _ _) n12
  have h1 : ∀ x ∈ onesOf (matchM (outT o) ns) ns, x ∈ o.map (·.1) := fun x hx => hs x (List.mem_filter.mp hx).1
  obtain ⟨a, b, c⟩ := go2 (ones0 := onesOf (matchM (outT o) ns) ns) hw hS 60 ⟨onesOf (matchM (outT o) ns) ns, [], onesOf (matchM (outT o) ns) ns⟩ (by
      show 2 * ((o.map (·.1)).length - 0) + (onesOf (matchM (outT o) ns) ns).length < 60
      omega) ⟨.nil, (fun _ h => by cases h), fun y hy => ⟨h1 y hy, hd y hy⟩, h1⟩ ⟨fun _ h => h, fun _ h => .inl h, (fun _ h => by cases h)⟩ (fun x hx => .inl hx)
  have er : rGo (outT o) (matchM (outT o) ns) 60 ⟨onesOf (matchM (outT o) ns) ns, [], onesOf (matchM (outT o) ns) ns⟩ = reachAt (outT o) ns := rfl
  rw [er] at a b c
  have look_of_val : ∀ {x}, x ∈ vals (matchM (outT o) ns) → ∃ z, KM.look (matchM (outT o) ns) z = some x := fun {x} hx => by
    obtain ⟨q, hq, e⟩ := List.mem_map.mp hx
    exact ⟨q.1, KM.look_of_mem mi.mw.nd (by rw [← e]; exact hq)⟩
  refine ⟨a.nd, fun z hz => closed_sub hw hS z (a.sub z hz), c, ?_⟩
  generalize hR : reachAt (outT o) ns = R at a b c
  have wv : ∀ z ∈ R.others, KM.look (matchM (outT o) ns) z = some (wVal (matchM (outT o) ns) z) := fun z hz => by
    obtain ⟨m, e, _⟩ := hS z (a.sub z hz)
    unfold wVal
    rw [e]
    rfl
  have p1 : (R.others.map (wVal (matchM (outT o) ns))).Perm ((vals (matchM (outT o) ns)).filter fun x => decide (x ∈ R.ones)) := by
    refine perm_of_mem (nodup_on a.nd fun u hu v hv e => ?_) (hvn.filter _) fun x => ?_
    · have h2 := wv v hv
      rw [← e] at h2
      exact look_inj hvn (wv u hu) h2
    · rw [List.mem_filter, decide_eq_true_iff, List.mem_map]
      constructor
      · rintro ⟨z, hz, rfl⟩
        exact ⟨List.mem_map_of_mem (f := (·.2)) (KM.look_some_mem (wv z hz)), b.p3 z hz _ (wv z hz)⟩
      · rintro ⟨h1, h2⟩
        rcases b.p2 x h2 with q | ⟨z, hz, e⟩
        · exact absurd h1 (of_decide_eq_true (List.mem_filter.mp q).2)
        · refine ⟨z, hz, ?_⟩
          have := wv z hz
          rw [e] at this
          exact (Option.some.inj this).symm
  have p2 : (ns.filter fun x => decide (x ∉ R.ones)).Perm ((vals (matchM (outT o) ns)).filter fun x => decide (x ∉ R.ones)) := by
    refine perm_of_mem (hn.filter _) (hvn.filter _) fun x => ?_
    rw [List.mem_filter, List.mem_filter, decide_eq_true_iff]
    constructor
    · rintro ⟨h1, h2⟩
      refine ⟨?_, h2⟩
      by_cases hx : x ∈ vals (matchM (outT o) ns)
      · exact hx
      · exact absurd (b.p1 x (List.mem_filter.mpr ⟨h1, decide_eq_true hx⟩)) h2
    · rintro ⟨h1, h2⟩
      exact ⟨hvs x h1, h2⟩
  have e1 := p1.length_eq
  rw [List.length_map] at e1
  rw [p2.length_eq, e1]
  have sp : ∀ l : List Str, (l.filter fun x => decide (x ∉ R.ones)).length + (l.filter fun x => decide (x ∈ R.ones)).length = l.length := fun l => by
    induction l with
    | nil => rfl
    | cons x l ih =>
      rw [List.filter_cons, List.filter_cons, List.length_cons]
      by_cases h : x ∈ R.ones
      · rw [decide_eq_true h, decide_eq_false (fun z => z h), if_neg (by decide), if_pos rfl, List.length_cons]
        omega
      · rw [decide_eq_false h, decide_eq_true h, if_pos rfl, if_neg (by decide), List.length_cons]
        omega
  exact sp _
/-! ### those of a beginning -/
theorem vals_snoc {ns : List Str} {x : Str} (ok : TabOk o) (hn : (ns ++ [x]).Nodup) : (vals (matchM (outT o) (ns ++ [x]))).Perm (vals (matchM (outT o) ns)) ∨ (vals (matchM (outT o) (ns ++ [x]))).Perm (x :: vals (matchM (outT o) ns)) := by
  have h1 := List.nodup_append.mp hn
  have hx : x ∉ ns := fun z => h1.2.2 x z x (List.mem_singleton_self x) rfl
  have := (KM.MI.snoc (outT_cl ok) (match_mi ok ns h1.1) hx (n := 13) (by rw [List.length_map]; have := ok.l12; omega)).2
  rw [matchM_snoc]
  cases hb : (KM.grow (outT o) 13 x (matchM (outT o) ns) []).1 with
  | true =>
    rw [hb, if_pos rfl] at this
    exact .inr this
  | false =>
    rw [hb, if_neg (by decide)] at this
    exact .inl this
theorem vals_take {ns : List Str} (ok : TabOk o) (hn : ns.Nodup) {n : Nat} : ∀ j, n + j ≤ ns.length → ∀ x ∈ ns.take n, (x ∈ vals (matchM (outT o) (ns.take (n + j))) ↔ x ∈ vals (matchM (outT o) (ns.take n)))
  | 0, _, x, _ => Iff.rfl
  | j + 1, hj, x, hx => by
    have hlt : n + j < ns.length := by omega
    have hy : ns[n + j]? = some (ns[n + j]'hlt) := List.getElem?_eq_getElem hlt
    have ih := vals_take ok hn j (by omega) x hx
    have e : ns.take (n + (j + 1)) = ns.take (n + j) ++ [ns[n + j]'hlt] := take_snoc hy
    have hnd : (ns.take (n + j) ++ [ns[n + j]'hlt]).Nodup := by
      rw [← e]
      exact hn.sublist (List.take_sublist _ _)
    have hxy : x ≠ ns[n + j]'hlt := fun z => by
      have h2 := take_notin hn hy
      rw [← z] at h2
      refine h2 ?_
      have : ns.take n = (ns.take (n + j)).take n := by rw [List.take_take, Nat.min_eq_left (by omega)]
      rw [this] at hx
      exact List.mem_of_mem_take hx
    rw [e]
    rcases vals_snoc ok hnd with p | p
    · rw [p.mem_iff]
      exact ih
    · rw [p.mem_iff, List.mem_cons]
      exact ⟨fun z => ih.mp (z.resolve_left hxy), fun z => .inr (ih.mpr z)⟩
/-! ### falling costs -/
theorem fal_pw (names : List Str) (cost : Str → Int) : (falM names cost).Pairwise fun y z => cost z ≤ cost y := by
  have h := List.pairwise_mergeSort (le := fun y z : Str => decide (0 - cost y ≤ 0 - cost z)) (fun a b c x y => by
    simp only [decide_eq_true_eq] at x y ⊢
    omega) (fun a b => by
    simp only [Bool.or_eq_true, decide_eq_true_eq]
    omega) names
  refine List.Pairwise.imp (fun {a b} q => ?_) h
  simp only [decide_eq_true_eq] at q
  omega
theorem some_take {cost : Str → Int} (lv : Int) : ∀ {l : List Str}, l.Pairwise (fun y z => cost z ≤ cost y) → ∃ n, n ≤ l.length ∧ someOf l cost lv = l.take n
  | [], _ => ⟨0, Nat.le_refl _, rfl⟩
  | x :: l, h => by
    rw [List.pairwise_cons] at h
    unfold someOf
    rw [List.filter_cons]
    by_cases hx : lv ≤ cost x
    · rw [if_pos (decide_eq_true hx)]
      obtain ⟨n, h1, h2⟩ := some_take lv h.2
      exact ⟨n + 1, Nat.succ_le_succ h1, congrArg (x :: ·) h2⟩
    · rw [if_neg (by rw [decide_eq_false hx]; decide)]
      refine ⟨0, Nat.zero_le _, ?_⟩
      rw [List.take_zero]
      refine List.filter_eq_nil_iff.mpr fun y hy => ?_
      have := h.1 y hy
      rw [decide_eq_false (by omega)]
      decide
theorem vals_some {fal : List Str} {cost : Str → Int} (ok : TabOk o) (hn : fal.Nodup) (hf : fal.Pairwise fun y z => cost z ≤ cost y) (lv : Int) :
    (vals (matchM (outT o) (someOf fal cost lv))).Perm ((fal.filter fun x => decide (x ∈ vals (matchM (outT o) fal))).filter fun x => decide (lv ≤ cost x)) := by
  obtain ⟨n, h1, h2⟩ := some_take lv hf
  have hsn : (someOf fal cost lv).Nodup := hn.filter _
  have mi := match_mi ok _ hsn
  refine perm_of_mem mi.vn ((hn.filter _).filter _) fun x => ?_
  rw [List.mem_filter, List.mem_filter, decide_eq_true_iff, decide_eq_true_iff]
  have key : x ∈ someOf fal cost lv → (x ∈ vals (matchM (outT o) fal) ↔ x ∈ vals (matchM (outT o) (someOf fal cost lv))) := fun hx => by
    rw [h2] at hx ⊢
    have := vals_take ok hn (n := n) (fal.length - n) (by omega) x hx
    rw [show n + (fal.length - n) = fal.length by omega, List.take_length] at this
    exact this
  constructor
  · intro hx
    have hxs := mi.vs x hx
    have := List.mem_filter.mp hxs
    exact ⟨⟨this.1, (key hxs).mpr hx⟩, of_decide_eq_true this.2⟩
  · rintro ⟨⟨a, b⟩, c⟩
    have hxs : x ∈ someOf fal cost lv := List.mem_filter.mpr ⟨a, decide_eq_true c⟩
    exact (key hxs).mp b
end
end BX
end
section
set_option Elab.async false
set_option linter.all false
set_option maxRecDepth 100000
set_option maxHeartbeats 4000000
namespace BX
open PySem PySem.Spec PyProof.Rows L2
section
variable {o : List (Str × List Str)} {fal : List Str} {cost : Str → Int}
/-- what holds behind the levels ls -/
structure PI (o : List (Str × List Str)) (fal : List Str) (cost : Str → Int) (ls : List Int) (p : PS) : Prop where
  low : 0 ≤ p.low ∧ (p.low = 0 ∨ p.low ∈ ls) ∧ ∀ l ∈ ls, l ≤ p.low
  wi : ∀ x, 0 ≤ p.wi x ∧ p.wi x ≤ p.low
  wo : ∀ x, 0 ≤ p.wo x ∧ p.wo x ≤ p.low
  ed : ∀ x ∈ fal, ∀ y ∈ outT o x, ∀ l ∈ ls, l ≤ cost x → l ≤ p.wi x + p.wo y
  sm : ((o.map (·.1)).map fun x => p.wi x + p.wo x).sum = ((fal.filter fun x => decide (x ∈ vals (matchM (outT o) fal))).map fun x => min (cost x) p.low).sum
theorem filter_sum (p q : Str → Bool) (δ : Int) (l : List Str) : ((l.filter p).map fun x => if q x = true then δ else 0).sum = δ * ((l.filter p).filter q).length := by
  have := sum_filter q (fun _ => δ) (l.filter p)
  rw [this, sum_const]
theorem PI.step (ok : TabOk o) (hn : fal.Nodup) (hp : fal.Perm (o.map (·.1))) (hf : fal.Pairwise fun y z => cost z ≤ cost y) {ls : List Int} {lv : Int} {p : PS} (h : PI o fal cost ls p) (hl : ∀ l ∈ ls, l < lv) (h0 : 0 ≤ lv)
    (hc : ∀ x ∈ fal, cost x < lv → cost x ∈ ls ∨ cost x ≤ 0) : PI o fal cost (ls ++ [lv]) (stepPr (outT o) fal cost p lv) := by
  have hso : ∀ x ∈ someOf fal cost lv, x ∈ o.map (·.1) := fun x hx => hp.mem_iff.mp (List.mem_filter.mp hx).1
  have hsn : (someOf fal cost lv).Nodup := hn.filter _
  have R := reach_ok ok hsn hso
  have hlow : p.low ≤ lv := by
    rcases h.low.2.1 with e | e
    · omega
    · exact Int.le_of_lt (hl _ e)
  have V := vals_some (o := o) ok hn hf lv
  have memS : ∀ {x}, x ∈ someOf fal cost lv ↔ x ∈ fal ∧ lv ≤ cost x := fun {x} => by
    unfold someOf
    rw [List.mem_filter, decide_eq_true_iff]
  unfold stepPr
  refine ⟨⟨h0, .inr (List.mem_append_right _ (List.mem_singleton_self lv)), fun l hl' => ?_⟩, fun x => ?_, fun x => ?_, fun x hx y hy l hl' hlc => ?_, ?_⟩
  · rcases List.mem_append.mp hl' with e | e
    · exact Int.le_of_lt (hl l e)
    · rw [List.mem_singleton.mp e]
      exact Int.le_refl _
  · have hh := h.wi x
    show 0 ≤ (if x ∈ someOf fal cost lv ∧ x ∉ (reachAt (outT o) (someOf fal cost lv)).ones then p.wi x + (lv - p.low) else p.wi x) ∧ (if x ∈ someOf fal cost lv ∧ x ∉ (reachAt (outT o) (someOf fal cost lv)).ones then p.wi x + (lv - p.low) else p.wi x) ≤ lv
    by_cases c : x ∈ someOf fal cost lv ∧ x ∉ (reachAt (outT o) (someOf fal cost lv)).ones
    · rw [if_pos c]
      omega
    · rw [if_neg c]
      omega
  · have hh := h.wo x
    show 0 ≤ (if x ∈ (reachAt (outT o) (someOf fal cost lv)).others then p.wo x + (lv - p.low) else p.wo x) ∧ (if x ∈ (reachAt (outT o) (someOf fal cost lv)).others then p.wo x + (lv - p.low) else p.wo x) ≤ lv
    by_cases c : x ∈ (reachAt (outT o) (someOf fal cost lv)).others
    · rw [if_pos c]
      omega
    · rw [if_neg c]
      omega
  · have hw := h.wi x
    have hv := h.wo y
    show l ≤ (if x ∈ someOf fal cost lv ∧ x ∉ (reachAt (outT o) (someOf fal cost lv)).ones then p.wi x + (lv - p.low) else p.wi x) + (if y ∈ (reachAt (outT o) (someOf fal cost lv)).others then p.wo y + (lv - p.low) else p.wo y)
    have mono : p.wi x + p.wo y ≤ (if x ∈ someOf fal cost lv ∧ x ∉ (reachAt (outT o) (someOf fal cost lv)).ones then p.wi x + (lv - p.low) else p.wi x) + (if y ∈ (reachAt (outT o) (someOf fal cost lv)).others then p.wo y + (lv - p.low) else p.wo y) := by
      split <;> split <;> omega
    rcases List.mem_append.mp hl' with e | e
    · have := h.ed x hx y hy l e hlc
      omega
    · have el := List.mem_singleton.mp e
      subst el
      have hold : p.low ≤ p.wi x + p.wo y := by
        rcases h.low.2.1 with q | q
        · omega
        · exact h.ed x hx y hy _ q (by omega)
      have hxs : x ∈ someOf fal cost l := memS.mpr ⟨hx, hlc⟩
      by_cases ho : x ∈ (reachAt (outT o) (someOf fal cost l)).ones
      · rw [if_pos (R.cov x ho y hy)]
        split <;> omega
      · rw [if_pos ⟨hxs, ho⟩]
        split <;> omega
  · -- the sums
    have e1 : ((o.map (·.1)).map fun x => (if x ∈ someOf fal cost lv ∧ x ∉ (reachAt (outT o) (someOf fal cost lv)).ones then p.wi x + (lv - p.low) else p.wi x) + (if x ∈ (reachAt (outT o) (someOf fal cost lv)).others then p.wo x + (lv - p.low) else p.wo x)) =
        (o.map (·.1)).map fun x => (p.wi x + p.wo x) + ((if x ∈ (someOf fal cost lv).filter (fun x => decide (x ∉ (reachAt (outT o) (someOf fal cost lv)).ones)) then lv - p.low else 0) + (if x ∈ (reachAt (outT o) (someOf fal cost lv)).others then lv - p.low else 0)) := List.map_congr_left fun x _ => by
      have m : x ∈ (someOf fal cost lv).filter (fun x => decide (x ∉ (reachAt (outT o) (someOf fal cost lv)).ones)) ↔ x ∈ someOf fal cost lv ∧ x ∉ (reachAt (outT o) (someOf fal cost lv)).ones := by
        rw [List.mem_filter, decide_eq_true_iff]
      by_cases a : x ∈ someOf fal cost lv ∧ x ∉ (reachAt (outT o) (someOf fal cost lv)).ones
      · rw [if_pos a, if_pos (m.mpr a)]
        split <;> omega
      · rw [if_neg a, if_neg (fun z => a (m.mp z))]
        split <;> omega
    show ((o.map (·.1)).map fun x => (if x ∈ someOf fal cost lv ∧ x ∉ (reachAt (outT o) (someOf fal cost lv)).ones then p.wi x + (lv - p.low) else p.wi x) + (if x ∈ (reachAt (outT o) (someOf fal cost lv)).others then p.wo x + (lv - p.low) else p.wo x)).sum = _
    rw [e1, sum_add (fun x => p.wi x + p.wo x), h.sm, sum_add, sum_mem ok.nd (hsn.filter _) (fun x hx => hso x (List.mem_filter.mp hx).1), sum_mem ok.nd R.nd R.sub]
    have cnt := R.cnt
    rw [V.length_eq] at cnt
    generalize hV : fal.filter (fun x => decide (x ∈ vals (matchM (outT o) fal))) = W at cnt
    have hWf : ∀ x ∈ W, x ∈ fal := fun x hx => by
      rw [← hV] at hx
      exact (List.mem_filter.mp hx).1
    have e2 : (W.map fun x => min (cost x) lv) = W.map fun x => min (cost x) p.low + (if decide (lv ≤ cost x) = true then lv - p.low else 0) := List.map_congr_left fun x hx => by
      have hxf := hWf x hx
      by_cases hc1 : lv ≤ cost x
      · rw [if_pos (decide_eq_true hc1)]
        omega
      · rw [if_neg (by rw [decide_eq_false hc1]; decide)]
        have : cost x ≤ p.low := by
          rcases hc x hxf (by omega) with q | q
          · exact h.low.2.2 _ q
          · have := h.low.1
            omega
        omega
    rw [e2, sum_add, sum_filter (fun x => decide (lv ≤ cost x)) (fun _ => lv - p.low) W, sum_const]
    have e3 : ((((someOf fal cost lv).filter fun x => decide (x ∉ (reachAt (outT o) (someOf fal cost lv)).ones)).length : Nat) : Int) + (((reachAt (outT o) (someOf fal cost lv)).others.length : Nat) : Int) = (((W.filter fun x => decide (lv ≤ cost x)).length : Nat) : Int) := by omega
    rw [← e3, Int.mul_add]
theorem PI.all (ok : TabOk o) (hn : fal.Nodup) (hp : fal.Perm (o.map (·.1))) (hf : fal.Pairwise fun y z => cost z ≤ cost y) (h0 : ∀ x ∈ fal, 0 ≤ cost x) (lvs : List Int) (hl : lvs.Pairwise (· < ·)) (hm : ∀ k, k ∈ lvs ↔ k ∈ (o.map (·.1)).map cost) :
    PI o fal cost lvs (lvs.foldl (stepPr (outT o) fal cost) ⟨fun _ => 0, fun _ => 0, 0⟩) := by
  have gen : ∀ n, n ≤ lvs.length → PI o fal cost (lvs.take n) ((lvs.take n).foldl (stepPr (outT o) fal cost) ⟨fun _ => 0, fun _ => 0, 0⟩) := by
    intro n
    induction n with
    | zero =>
      intro _
      refine ⟨⟨Int.le_refl 0, .inl rfl, (fun _ h => by cases h)⟩, fun x => ⟨Int.le_refl 0, Int.le_refl 0⟩, fun x => ⟨Int.le_refl 0, Int.le_refl 0⟩, (fun x _ y _ l h => by cases h), ?_⟩
      have a1 : ((o.map (·.1)).map fun x => (0 : Int) + 0).sum = 0 := by
        rw [sum_const]
        simp
      have a2 : ((fal.filter fun x => decide (x ∈ vals (matchM (outT o) fal))).map fun x => min (cost x) 0).sum = 0 := by
        have : ((fal.filter fun x => decide (x ∈ vals (matchM (outT o) fal))).map fun x => min (cost x) 0) = (fal.filter fun x => decide (x ∈ vals (matchM (outT o) fal))).map fun _ => (0 : Int) := List.map_congr_left fun x hx => by
          have := h0 x (List.mem_filter.mp hx).1
          omega
        rw [this, sum_const]
        simp
      show ((o.map (·.1)).map fun x => (0 : Int) + 0).sum = ((fal.filter fun x => decide (x ∈ vals (matchM (outT o) fal))).map fun x => min (cost x) 0).sum
      rw [a1, a2]
    | succ n ih =>
      intro hn1
      have hlt : n < lvs.length := hn1
      have hx : lvs[n]? = some (lvs[n]'hlt) := List.getElem?_eq_getElem hlt
      rw [take_snoc hx, List.foldl_append]
      have hpw : ∀ l ∈ lvs.take n, l < lvs[n]'hlt := fun l hl' => by
        obtain ⟨i, hi⟩ := List.mem_iff_getElem?.mp hl'
        have hin : i < n := by
          have := (List.getElem?_eq_some_iff.mp hi).1
          rw [List.length_take] at this
          omega
        rw [List.getElem?_take_of_lt hin] at hi
        have e := (List.getElem?_eq_some_iff.mp hi)
        obtain ⟨h1, h2⟩ := e
        rw [← h2]
        exact List.pairwise_iff_getElem.mp hl i n h1 hlt hin
      have hin : lvs[n]'hlt ∈ (o.map (·.1)).map cost := (hm _).mp (List.getElem_mem hlt)
      obtain ⟨x0, hx0, ex0⟩ := List.mem_map.mp hin
      refine PI.step ok hn hp hf (ih (by omega)) hpw ?_ fun x hxf hlt' => .inl ?_
      · rw [← ex0]
        exact h0 x0 (hp.mem_iff.mpr hx0)
      · have hk : cost x ∈ lvs := (hm _).mpr (List.mem_map_of_mem (hp.mem_iff.mp hxf))
        obtain ⟨i, hi⟩ := List.mem_iff_getElem?.mp hk
        obtain ⟨h1, h2⟩ := List.getElem?_eq_some_iff.mp hi
        have hin' : i < n := by
          rcases Nat.lt_trichotomy i n with q | q | q
          · exact q
          · subst q
            omega
          · have := List.pairwise_iff_getElem.mp hl n i hlt h1 q
            omega
        exact List.mem_iff_getElem?.mpr ⟨i, by rw [List.getElem?_take_of_lt hin']; exact hi⟩
  have := gen lvs.length (Nat.le_refl _)
  rwa [List.take_length] at this
end
end BX
end
section
set_option Elab.async false
set_option linter.all false
set_option maxRecDepth 100000
set_option maxHeartbeats 4000000
namespace BX
open PySem PySem.Spec PyProof.Rows L2
section
variable {o : List (Str × List Str)} {w : KM.W Str} {rk : Str → Nat}
/-- from x inwards -/
def path (w : KM.W Str) : Nat → Str → List Str
  | 0, x => [x]
  | n + 1, x => match KM.look w x with
    | none => [x]
    | some m => x :: path w n m
theorem path_end {n : Nat} {x : Str} (h : KM.look w x = none) : path w n x = [x] := by
  cases n with
  | zero => rfl
  | succ n =>
    unfold path
    rw [h]
theorem path_more {n : Nat} {x m : Str} (h : KM.look w x = some m) : path w (n + 1) x = x :: path w n m := by
  conv => lhs; unfold path
  rw [h]
theorem path_self (n : Nat) (x : Str) : ∃ t, path w n x = x :: t := by
  cases n with
  | zero => exact ⟨[], rfl⟩
  | succ n =>
    cases h : KM.look w x with
    | none => exact ⟨[], path_end h⟩
    | some m => exact ⟨_, path_more h⟩
theorem chain_path : ∀ (n : Nat) (x : Str) (acc : List Str), chainGo w n x acc = (path w n x).reverse ++ acc
  | 0, x, acc => rfl
  | n + 1, x, acc => by
    cases h : KM.look w x with
    | none =>
      rw [chain_end h, path_end h]
      rfl
    | some m =>
      rw [chain_more h, path_more h, chain_path n m, List.reverse_cons, List.append_assoc]
      rfl
inductive On (w : KM.W Str) (x : Str) : Str → Prop where
  | self : On w x x
  | step {y z : Str} : On w x y → KM.look w y = some z → On w x z
theorem On.first {x m z : Str} (h : KM.look w x = some m) (g : On w m z) : On w x z := by
  induction g with
  | self => exact .step .self h
  | step _ e ih => exact .step ih e
theorem path_on : ∀ {n : Nat} {x z : Str}, z ∈ path w n x → On w x z
  | 0, x, z, h => by
    rw [List.mem_singleton.mp h]
    exact .self
  | n + 1, x, z, h => by
    cases e : KM.look w x with
    | none =>
      rw [path_end e] at h
      rw [List.mem_singleton.mp h]
      exact .self
    | some m =>
      rw [path_more e] at h
      rcases List.mem_cons.mp h with q | q
      · rw [q]
        exact .self
      · exact (path_on q).first e
theorem path_next (hr : ∀ z m, KM.look w z = some m → rk m < rk z) : ∀ {n : Nat} {x y z : Str}, rk x ≤ n → y ∈ path w n x → KM.look w y = some z → z ∈ path w n x
  | 0, x, y, z, hn, hy, e => by
    rw [List.mem_singleton.mp hy] at e
    have := hr _ _ e
    omega
  | n + 1, x, y, z, hn, hy, e => by
    cases ex : KM.look w x with
    | none =>
      rw [path_end ex] at hy
      rw [List.mem_singleton.mp hy, ex] at e
      cases e
    | some m =>
      have hm := hr _ _ ex
      rw [path_more ex] at hy ⊢
      rcases List.mem_cons.mp hy with q | q
      · rw [q, ex] at e
        cases e
        obtain ⟨t, ht⟩ := path_self (w := w) n z
        rw [ht]
        exact List.mem_cons_of_mem _ List.mem_cons_self
      · exact List.mem_cons_of_mem _ (path_next hr (by omega) q e)
theorem on_path (hr : ∀ z m, KM.look w z = some m → rk m < rk z) {n : Nat} {x z : Str} (hn : rk x ≤ n) (h : On w x z) : z ∈ path w n x := by
  induction h with
  | self =>
    obtain ⟨t, ht⟩ := path_self (w := w) n x
    rw [ht]
    exact List.mem_cons_self
  | step _ e ih => exact path_next hr hn ih e
theorem on_rk (hr : ∀ z m, KM.look w z = some m → rk m < rk z) {x z : Str} (h : On w x z) : rk z ≤ rk x := by
  induction h with
  | self => exact Nat.le_refl _
  | step _ e ih => exact Nat.le_trans (Nat.le_of_lt (hr _ _ e)) ih
theorem path_nd (hr : ∀ z m, KM.look w z = some m → rk m < rk z) : ∀ (n : Nat) (x : Str), (path w n x).Nodup
  | 0, x => by
    show [x].Nodup
    simp
  | n + 1, x => by
    cases e : KM.look w x with
    | none =>
      rw [path_end e]
      simp
    | some m =>
      rw [path_more e, List.nodup_cons]
      refine ⟨fun h => ?_, path_nd hr n m⟩
      have := on_rk hr (path_on h)
      have := hr _ _ e
      omega
theorem on_inj (hv : (vals w).Nodup) {x y z : Str} (hx : x ∉ vals w) (hy : y ∉ vals w) (h1 : On w x z) : On w y z → x = y := by
  have inv : ∀ {a b : Str}, KM.look w a = some b → b ∈ vals w := fun {a b} e => List.mem_map_of_mem (f := (·.2)) (KM.look_some_mem e)
  induction h1 with
  | self =>
    intro h2
    cases h2 with
    | self => rfl
    | step _ e => exact absurd (inv e) hx
  | step h e ih =>
    intro h2
    cases h2 with
    | self => exact absurd (inv e) hy
    | step g e2 =>
      have := look_inj hv e e2
      subst this
      exact ih g
theorem on_ex (hnd : (w.map (·.1)).Nodup) {names : List Str} (hr : ∀ z m, KM.look w z = some m → rk m < rk z) (h13 : ∀ x, rk x < 13) (hk : ∀ z m, KM.look w z = some m → z ∈ names) : ∀ (n : Nat) (z : Str), 13 ≤ rk z + n → z ∈ names → ∃ x ∈ onesOf w names, On w x z
  | 0, z, hn, _ => by
    have := h13 z
    omega
  | n + 1, z, hn, hz => by
    by_cases hv : z ∈ vals w
    · obtain ⟨q, hq, e⟩ := List.mem_map.mp hv
      have el : KM.look w q.1 = some z := KM.look_of_mem hnd (by rw [← e]; exact hq)
      have := hr _ _ el
      obtain ⟨x, hx, ho⟩ := on_ex hnd hr h13 hk n q.1 (by omega) (hk _ _ el)
      exact ⟨x, hx, .step ho el⟩
    · exact ⟨z, List.mem_filter.mpr ⟨hz, decide_eq_true hv⟩, .self⟩
theorem chain_go {out : Str → List Str} (he : ∀ z m, KM.look w z = some m → z ∈ out m) : ∀ (n : Nat) (x : Str) (acc : List Str), (∀ i a b, (x :: acc)[i]? = some a → (x :: acc)[i + 1]? = some b → b ∈ out a) →
    ∀ i a b, (chainGo w n x acc)[i]? = some a → (chainGo w n x acc)[i + 1]? = some b → b ∈ out a
  | 0, x, acc, h => h
  | n + 1, x, acc, h => by
    cases e : KM.look w x with
    | none =>
      rw [chain_end e]
      exact h
    | some m =>
      rw [chain_more e]
      refine chain_go he n m (x :: acc) fun i a b h1 h2 => ?_
      cases i with
      | zero =>
        cases h1
        cases h2
        exact he _ _ e
      | succ i => exact h i a b h1 h2
theorem sum_flat (f : Str → Int) : ∀ l : List (List Str), (l.flatten.map f).sum = (l.map fun n => (n.map f).sum).sum
  | [] => rfl
  | x :: l => by
    rw [List.flatten_cons, List.map_append, List.sum_append, sum_flat f l, List.map_cons, List.sum_cons]
/-- the nests of a matching -/
structure NestsOk (o : List (Str × List Str)) (cost : Str → Int) (w : KM.W Str) (names : List Str) : Prop where
  all : ∀ n ∈ nestsM w names, NestOk o n
  parts : (nestsM w names).flatten.Perm names
  len : (nestsM w names).length ≤ names.length
  sum : ((nestsM w names).map fun n => (n.dropLast.map cost).sum).sum = ((names.filter fun x => decide (x ∈ vals w)).map cost).sum
theorem nests_ok (cost : Str → Int) {names : List Str} (hn : names.Nodup) (hno : names = o.map (·.1)) (hnd : (w.map (·.1)).Nodup) (hv : (vals w).Nodup) (hs : ∀ x ∈ vals w, x ∈ names) (hk : ∀ z m, KM.look w z = some m → z ∈ names)
    (he : ∀ z m, KM.look w z = some m → z ∈ outT o m) (R : Ranked w) : NestsOk o cost w names := by
  obtain ⟨rk, h13, hr⟩ := R
  have inv : ∀ {a b : Str}, KM.look w a = some b → b ∈ vals w := fun {a b} e => List.mem_map_of_mem (f := (·.2)) (KM.look_some_mem e)
  have ech : ∀ x, chainGo w 13 x [] = (path w 13 x).reverse := fun x => by rw [chain_path, List.append_nil]
  have ones : ∀ {x}, x ∈ onesOf w names ↔ x ∈ names ∧ x ∉ vals w := fun {x} => by
    unfold onesOf
    rw [List.mem_filter, decide_eq_true_iff]
    rfl
  have onn : ∀ {x z}, x ∈ names → On w x z → z ∈ names := fun {x z} hx h => by
    cases h with
    | self => exact hx
    | step _ e => exact hs _ (inv e)
  have parts : (nestsM w names).flatten.Perm names := by
    refine perm_of_mem ?_ hn fun z => ?_
    · show List.Pairwise (· ≠ ·) (nestsM w names).flatten
      rw [List.pairwise_flatten]
      refine ⟨fun l hl => ?_, ?_⟩
      · obtain ⟨x, _, e⟩ := List.mem_map.mp hl
        rw [← e, ech]
        exact (List.reverse_perm _).nodup_iff.mpr (path_nd hr 13 x)
      · unfold nestsM
        rw [List.pairwise_map]
        have hno2 : (onesOf w names).Pairwise (· ≠ ·) := hn.filter _
        refine List.Pairwise.imp_of_mem (fun {x y} hx hy hxy a ha b hb hab => ?_) hno2
        rw [ech, List.mem_reverse] at ha hb
        rw [← hab] at hb
        exact hxy (on_inj hv (ones.mp hx).2 (ones.mp hy).2 (path_on ha) (path_on hb))
    · rw [List.mem_flatten]
      constructor
      · rintro ⟨l, hl, hz⟩
        obtain ⟨x, hx, e⟩ := List.mem_map.mp hl
        rw [← e, ech, List.mem_reverse] at hz
        exact onn (ones.mp hx).1 (path_on hz)
      · intro hz
        obtain ⟨x, hx, ho⟩ := on_ex hnd hr h13 hk 13 z (by omega) hz
        refine ⟨_, List.mem_map_of_mem hx, ?_⟩
        rw [ech, List.mem_reverse]
        exact on_path hr (Nat.le_of_lt (h13 x)) ho
  refine ⟨fun l hl => ?_, parts, ?_, ?_⟩
  · obtain ⟨x, hx, e⟩ := List.mem_map.mp hl
    subst e
    refine ⟨?_, ?_, fun z hz => ?_, chain_go he 13 x [] fun i a b h1 h2 => ?_⟩
    · rw [ech]
      obtain ⟨t, ht⟩ := path_self (w := w) 13 x
      rw [ht]
      simp
    · rw [ech]
      exact (List.reverse_perm _).nodup_iff.mpr (path_nd hr 13 x)
    · rw [ech, List.mem_reverse] at hz
      rw [← hno]
      exact onn (ones.mp hx).1 (path_on hz)
    · cases h2
  · unfold nestsM onesOf
    rw [List.length_map]
    exact List.length_filter_le _ _
  · have e1 := sum_perm (parts.map cost)
    rw [sum_flat] at e1
    have e2 : ((nestsM w names).map fun n => (n.map cost).sum).sum = ((onesOf w names).map fun x => cost x + ((chainGo w 13 x []).dropLast.map cost).sum).sum := by
      unfold nestsM
      rw [List.map_map]
      refine congrArg List.sum (List.map_congr_left fun x _ => ?_)
      show ((chainGo w 13 x []).map cost).sum = _
      obtain ⟨t, ht⟩ := path_self (w := w) 13 x
      rw [ech, ht, List.reverse_cons, List.dropLast_concat, List.map_append, List.sum_append]
      show _ + (cost x + 0) = _
      omega
    have e3 : ((nestsM w names).map fun n => (n.dropLast.map cost).sum).sum = ((onesOf w names).map fun x => ((chainGo w 13 x []).dropLast.map cost).sum).sum := by
      unfold nestsM
      rw [List.map_map]
      rfl
    have e4 : ∀ l : List Str, (l.map cost).sum = ((l.filter fun x => decide (x ∉ w.map (·.2))).map cost).sum + ((l.filter fun x => decide (x ∈ vals w)).map cost).sum := fun l => by
      induction l with
      | nil => rfl
      | cons x l ih =>
        rw [List.filter_cons, List.filter_cons, List.map_cons, List.sum_cons, ih]
        by_cases h : x ∈ vals w
        · rw [if_neg (by rw [decide_eq_false (fun z => z h)]; decide), if_pos (decide_eq_true h), List.map_cons, List.sum_cons]
          omega
        · have h' : x ∉ w.map (·.2) := h
          rw [if_pos (decide_eq_true h'), if_neg (by rw [decide_eq_false h]; decide), List.map_cons, List.sum_cons]
          omega
    rw [e2, sum_add, ← e3, e4 names] at e1
    unfold onesOf at e1
    omega
end
end BX
end
section
set_option Elab.async false
set_option linter.all false
namespace BX
open PySem PySem.Spec PyProof.Rows L2
theorem cheap_ok {rs : List Row} (ok : RowsOk rs) {cs : List (Str × Int)} (cok : CostsOk cs rs) {i : Int} (h0 : 0 ≤ i) : ShownOk (outOf i rs) (costOf cs) (cheapM i rs (costOf cs)) ∧ Bounded (rs.map Row.name) (cheapM i rs (costOf cs)) := by
  have tok := tab_out ok i
  have hk := out_keys i rs
  have hp := fal_perm (rs.map Row.name) (costOf cs)
  have hf := fal_pw (rs.map Row.name) (costOf cs)
  have hpo : (falM (rs.map Row.name) (costOf cs)).Perm ((outOf i rs).map (·.1)) := by
    rw [hk]
    exact hp
  have hfn : (falM (rs.map Row.name) (costOf cs)).Nodup := hp.nodup_iff.mpr ok.nd
  have hc : ∀ x ∈ rs.map Row.name, 0 ≤ costOf cs x ∧ costOf cs x ≤ 1000000 := fun x hx => by
    obtain ⟨r, hr, e⟩ := List.mem_map.mp hx
    obtain ⟨c, h1, h2, h3⟩ := cok.all r hr
    unfold costOf
    rw [← e, h1]
    exact ⟨h2, h3⟩
  have hfs : ∀ {x}, x ∈ falM (rs.map Row.name) (costOf cs) ↔ x ∈ rs.map Row.name := fun {x} => hp.mem_iff
  have I := PI.all (o := outOf i rs) tok hfn hpo hf (fun x hx => (hc x (hfs.mp hx)).1) (levelsOf ((rs.map Row.name).map (costOf cs))) (levels_lt _) (fun k => by
    rw [hk]
    exact mem_levels)
  have mi := match_mi tok _ hfn
  have N := nests_ok (o := outOf i rs) (w := matchM (outT (outOf i rs)) (falM (rs.map Row.name) (costOf cs))) (costOf cs) ok.nd hk.symm mi.mw.nd mi.vn (fun x hx => hfs.mp (mi.vs x hx)) (fun z m e => by
    rw [← hk]
    exact mi.mw.ks z (KM.mem_of_look e)) mi.mw.ed (ranked_of ok h0 mi.mw.ed)
  have lc : ∀ {x}, x ∈ rs.map Row.name → costOf cs x ∈ levelsOf ((rs.map Row.name).map (costOf cs)) := fun {x} hx => mem_levels.mpr (List.mem_map_of_mem hx)
  have hlow : (pricesM (outT (outOf i rs)) (rs.map Row.name) (falM (rs.map Row.name) (costOf cs)) (costOf cs)).low ≤ 1000000 := by
    rcases I.low.2.1 with q | q
    · have q' : (pricesM (outT (outOf i rs)) (rs.map Row.name) (falM (rs.map Row.name) (costOf cs)) (costOf cs)).low = 0 := q
      omega
    · obtain ⟨x, hx, e⟩ := List.mem_map.mp (mem_levels.mp q)
      have e' : costOf cs x = (pricesM (outT (outOf i rs)) (rs.map Row.name) (falM (rs.map Row.name) (costOf cs)) (costOf cs)).low := e
      rw [← e']
      exact (hc x hx).2
  refine ⟨⟨N.all, ?_, ?_, fun x _ => (I.wi x).1, fun x _ => (I.wo x).1, fun x hx y hy => ?_, ?_⟩, fun x _ => ?_, fun x _ => ?_⟩
  · rw [hk]
    exact N.parts
  · have h1 := N.len
    rw [List.length_map] at h1
    exact Nat.le_trans h1 ok.l12
  · rw [hk] at hx
    exact I.ed x (hfs.mpr hx) y hy _ (lc hx) (Int.le_refl _)
  · have e1 := I.sm
    refine e1.trans (Eq.trans ?_ N.sum.symm)
    have e2 : (((falM (rs.map Row.name) (costOf cs)).filter fun x => decide (x ∈ vals (matchM (outT (outOf i rs)) (falM (rs.map Row.name) (costOf cs))))).map fun x => min (costOf cs x) ((levelsOf ((rs.map Row.name).map (costOf cs))).foldl (stepPr (outT (outOf i rs)) (falM (rs.map Row.name) (costOf cs)) (costOf cs)) ⟨fun _ => 0, fun _ => 0, 0⟩).low) = ((falM (rs.map Row.name) (costOf cs)).filter fun x => decide (x ∈ vals (matchM (outT (outOf i rs)) (falM (rs.map Row.name) (costOf cs))))).map (costOf cs) := List.map_congr_left fun x hx => by
      have hxf := (List.mem_filter.mp hx).1
      exact Int.min_eq_left (I.low.2.2 _ (lc (hfs.mp hxf)))
    rw [e2]
    exact sum_perm ((hp.filter _).map _)
  · have h1 := (I.wi x).2
    have h2 : (cheapM i rs (costOf cs)).wi x ≤ (pricesM (outT (outOf i rs)) (rs.map Row.name) (falM (rs.map Row.name) (costOf cs)) (costOf cs)).low := h1
    omega
  · have h1 := (I.wo x).2
    have h2 : (cheapM i rs (costOf cs)).wo x ≤ (pricesM (outT (outOf i rs)) (rs.map Row.name) (falM (rs.map Row.name) (costOf cs)) (costOf cs)).low := h1
    omega
end BX
end
section
set_option Elab.async false
set_option linter.all false
set_option maxRecDepth 100000
set_option maxHeartbeats 4000000
namespace BX
open PySem PySem.Spec PyProof.Rows L2 LamX
open C8 (Cal Mak Met pe_c pe_mk pe_mt pe_mt0 pe_gc)
/-! ### the names that may be put -/
def nubF (ys : List Str) (k : Nat) : Option Str := match ys[k]? with
  | some y => if y ∉ ys.take k then some y else none
  | none => none
def nub (ys : List Str) : List Str := (List.range ys.length).filterMap (nubF ys)
theorem fm_congr {α β : Type} {f g : α → Option β} : ∀ {l : List α}, (∀ x ∈ l, f x = g x) → l.filterMap f = l.filterMap g
  | [], _ => rfl
  | x :: l, h => by
    rw [List.filterMap_cons, List.filterMap_cons, h x List.mem_cons_self, fm_congr fun y hy => h y (List.mem_cons_of_mem x hy)]
theorem range_fm (l : List Str) : ∀ n, (List.range n).filterMap (fun k => l[k]?) = l.take n
  | 0 => by simp
  | n + 1 => by
    rw [List.range_succ, List.filterMap_append, range_fm l n, List.take_add_one]
    cases h : l[n]? <;> simp [h]
theorem nub_prefix {l : List Str} (hn : l.Nodup) (xs : List Str) : ∃ rest, nub (l ++ xs) = l ++ rest := by
  unfold nub
  rw [List.length_append, List.range_add, List.filterMap_append]
  refine ⟨_, congrArg (· ++ _) ?_⟩
  have e : (List.range l.length).filterMap (nubF (l ++ xs)) = (List.range l.length).filterMap (fun k => l[k]?) := by
    refine fm_congr fun k hk => ?_
    have hk' := List.mem_range.mp hk
    unfold nubF
    have h1 : (l ++ xs)[k]? = l[k]? := List.getElem?_append_left hk'
    rw [h1, List.getElem?_eq_getElem hk']
    have h2 : (l ++ xs).take k = l.take k := List.take_append_of_le_length (Nat.le_of_lt hk')
    show (if l[k] ∉ (l ++ xs).take k then some l[k] else none) = some l[k]
    rw [h2, if_pos (take_notin hn (List.getElem?_eq_getElem hk'))]
  rw [e, range_fm, List.take_length]
theorem nub_mem {ys : List Str} {y : Str} (h : y ∈ nub ys) : y ∈ ys := by
  unfold nub at h
  obtain ⟨k, _, e⟩ := List.mem_filterMap.mp h
  unfold nubF at e
  cases q : ys[k]? with
  | none =>
    rw [q] at e
    cases e
  | some z =>
    rw [q] at e
    have e' : (if z ∉ ys.take k then some z else none) = some y := e
    split at e'
    · cases e'
      exact List.mem_of_getElem? q
    · cases e'
theorem nub_ne {ys : List Str} (h : ys ≠ []) : nub ys ≠ [] := by
  cases ys with
  | nil => exact absurd rfl h
  | cons y ys =>
    have : y ∈ nub (y :: ys) := List.mem_filterMap.mpr ⟨0, List.mem_range.mpr (Nat.succ_pos _), rfl⟩
    exact fun z => by
      rw [z] at this
      cases this
theorem cut_takeN (xs : List V) (n : Nat) : cutV xs none (some (n : Int)) = xs.take n := by
  unfold cutV
  rw [HT.sIx_none, HT.sIx_nat, List.drop_zero, Nat.sub_zero]
  by_cases h : n ≤ xs.length
  · rw [Nat.min_eq_left h]
  · rw [Nat.min_eq_right (by omega), List.take_length, List.take_of_length_le (by omega)]
/-! ### slots one by one -/
def G (σ : L2.St) (j : Nat) (v : V) : Prop := σ[j]? = some (some v)
theorem G.ne {σ : L2.St} {j i : Nat} {v : V} {x : Option V} (h : G σ j v) (n : i ≠ j) : G (σ.set i x) j v := by
  unfold G
  rw [List.getElem?_set_ne n]
  exact h
theorem G.self {σ : L2.St} {j : Nat} {v : V} (h : j < σ.length) : G (σ.set j (some v)) j v := List.getElem?_set_self h
theorem Sl.G {js : List Nat} {σ0 σ : L2.St} (h : Sl js σ0 σ) {j : Nat} {v : V} (hj : j ∉ js) (g : BX.G σ0 j v) : BX.G σ j v := h.g j hj g
/-! ### what persists where nothing but tables is written -/
section
variable {K : PySem.W.Frag} {S : List Addr} {H H' : Hp}
theorem del_ext (e : ExtN H H') : ExtN (del S H) (del S H') := fun b o h n => del_of (del_to h).1 (e b o (del_to h).2 n)
theorem Side.ext {A h L : Addr} {as ps : List Addr} {rs : List Row} (s : Side K S H A h L as rs ps) (e : ExtN H H') : Side K S H' A h L as rs ps := by
  obtain ⟨dx, q⟩ := s.ob
  have e2 := nt_same (del_ext (S := S) e)
  exact ⟨e _ _ s.ra (fun ps z => by cases z), e _ _ s.la (fun ps z => by cases z), ⟨dx, e2 _ _ (nt_of q (fun ps z => by cases z))⟩, Paired.mapP s.rp fun a r z => z.nt.same e2, Paired.mapP s.pp fun a r z => z.nt.same e2⟩
theorem SideIn.ext {p A h L : Addr} {as ps : List Addr} {rs : List Row} {c : Nat} (s : SideIn K S H p A h L as rs ps c) (e : ExtN H H') : SideIn K S H' p A h L as rs ps c := by
  refine ⟨?_, fun b hb => ?_, s.sd.ext e, s.ok, s.ip, s.iA, s.iL, s.npA, s.npL, s.nAL⟩
  · obtain ⟨g, a, n, q1, q2⟩ := s.pu
    exact ⟨g, a, n, e _ _ q1 (fun ps z => by cases z), q2⟩
  · obtain ⟨xs, q⟩ := s.li b hb
    exact ⟨xs, e _ _ q (fun ps z => by cases z)⟩
theorem extF {Hs : Hp} {T : List Addr} (x : ExtN Hs H) (c : Chg T H H') (f : ∀ b ∈ T, Fresh Hs b) : ExtN Hs H' := fun b o e n => c _ _ (fun z => by
  obtain ⟨ps, q⟩ := f b z o e
  exact n ps q) (x b o e n)
theorem Fresh.new {Hs : Hp} {b : Addr} (x : ExtN Hs H) (h : H b = none) : Fresh Hs b := Fresh.of x h
end
/-- the fixed part of one cell's work -/
structure Fx where
  S : List Addr
  p : Addr
  A0 : Addr
  h0 : Addr
  L0 : Addr
  A1 : Addr
  h1 : Addr
  L1 : Addr
  SP : Addr
  HD : Addr
  HP : Addr
  CN : Addr
  s0 : Int
  s1 : Int
  names : List Str
structure LS (K : PySem.W.Frag) (Hs H : Hp) (x : Fx) (as0 : List Addr) (rs0 : List Row) (ps0 as1 : List Addr) (rs1 : List Row) (ps1 : List Addr) (c : Nat) : Prop where
  i0 : SideIn K x.S H x.p x.A0 x.h0 x.L0 as0 rs0 ps0 c
  i1 : SideIn K x.S H x.p x.A1 x.h1 x.L1 as1 rs1 ps1 c
  nA : x.A1 ∉ [x.p, x.A0, x.L0]
  nL : x.L1 ∉ [x.p, x.A0, x.L0]
  sp : del x.S H x.SP = some (.lst [.int x.s0, .int x.s1])
  hd : del x.S H x.HD = some (.lst [.ref x.A0, .ref x.A1])
  hp : del x.S H x.HP = some (.lst [.ref x.h0, .ref x.h1])
  cn : del x.S H x.CN = some (.lst (x.names.map V.str))
  sub : ∀ r ∈ rs0, r.name ∈ x.names
  no : ∀ y ∈ x.names, NameOk y
  l12 : x.names.length ≤ 12
  ne : x.names ≠ []
  tb : Tabs (tabsT K) H
  ex : ExtN Hs H
  fr : ∀ b ∈ x.S, Fresh Hs b
  b0 : 0 ≤ x.s0 ∧ x.s0 ≤ 1000
  b1 : 0 ≤ x.s1 ∧ x.s1 ≤ 1000
section
variable {K : PySem.W.Frag} {Hs H H' : Hp} {x : Fx} {as0 ps0 as1 ps1 : List Addr} {rs0 rs1 : List Row} {c : Nat}
theorem LS.spent {k : Nat} (l : LS K Hs H x as0 rs0 ps0 as1 rs1 ps1 c) (s : Spent x.p k H H') : LS K Hs H' x as0 rs0 ps0 as1 rs1 ps1 (c + k) := by
  have pS : ∀ b ∈ [x.p], b ∈ x.S := fun b hb => by rw [List.mem_singleton.mp hb]; exact l.i0.ip
  have e := del_chg s.chg pS
  refine ⟨l.i0.spent s, l.i1.spent s, l.nA, l.nL, e _ _ l.sp, e _ _ l.hd, e _ _ l.hp, e _ _ l.cn, l.sub, l.no, l.l12, l.ne, tabs_chg l.tb s.chg fun b hb => ?_, extF l.ex s.chg fun b hb => l.fr b (pS b hb), l.fr, l.b0, l.b1⟩
  rw [List.mem_singleton.mp hb]
  obtain ⟨_, _, _, q, _⟩ := l.i0.pu
  exact .inl ⟨_, q⟩
theorem LS.same (l : LS K Hs H x as0 rs0 ps0 as1 rs1 ps1 c) (s : Same H H') : LS K Hs H' x as0 rs0 ps0 as1 rs1 ps1 c := l.spent (Spent.of s)
theorem LS.mono {d : Nat} (l : LS K Hs H x as0 rs0 ps0 as1 rs1 ps1 c) (h : c ≤ d) : LS K Hs H x as0 rs0 ps0 as1 rs1 ps1 d := ⟨l.i0.mono h, l.i1.mono h, l.nA, l.nL, l.sp, l.hd, l.hp, l.cn, l.sub, l.no, l.l12, l.ne, l.tb, l.ex, l.fr, l.b0, l.b1⟩
theorem LS.ext (l : LS K Hs H x as0 rs0 ps0 as1 rs1 ps1 c) (e : ExtN H H') (t : Tabs (tabsT K) H') : LS K Hs H' x as0 rs0 ps0 as1 rs1 ps1 c := by
  have e2 := del_ext (S := x.S) e
  exact ⟨l.i0.ext e, l.i1.ext e, l.nA, l.nL, e2 _ _ l.sp (fun ps z => by cases z), e2 _ _ l.hd (fun ps z => by cases z), e2 _ _ l.hp (fun ps z => by cases z), e2 _ _ l.cn (fun ps z => by cases z), l.sub, l.no, l.l12, l.ne, t, l.ex.trans e, l.fr, l.b0, l.b1⟩
theorem LS.deed {as0' ps0' : List Addr} {rs0' : List Row} {d : Nat} (l : LS K Hs H x as0 rs0 ps0 as1 rs1 ps1 c) (ch : Chg [x.p, x.A0, x.L0] H H') (i : SideIn K x.S H' x.p x.A0 x.h0 x.L0 as0' rs0' ps0' d) (sub : ∀ r ∈ rs0', r.name ∈ x.names) : LS K Hs H' x as0' rs0' ps0' as1 rs1 ps1 d := by
  have pS : ∀ b ∈ [x.p, x.A0, x.L0], b ∈ x.S := fun b hb => by
    rcases List.mem_cons.mp hb with e | e
    · rw [e]
      exact l.i0.ip
    · rcases List.mem_cons.mp e with e | e
      · rw [e]
        exact l.i0.iA
      · rw [List.mem_singleton.mp e]
        exact l.i0.iL
  have e := del_chg ch pS
  refine ⟨i, ⟨i.pu, i.li, l.i1.sd.chg ch pS l.nA l.nL, l.i1.ok, l.i1.ip, l.i1.iA, l.i1.iL, l.i1.npA, l.i1.npL, l.i1.nAL⟩, l.nA, l.nL, e _ _ l.sp, e _ _ l.hd, e _ _ l.hp, e _ _ l.cn, sub, l.no, l.l12, l.ne, tabs_chg l.tb ch fun b hb => ?_, extF l.ex ch fun b hb => l.fr b (pS b hb), l.fr, l.b0, l.b1⟩
  obtain ⟨xs, q⟩ := l.i0.li b (pS b hb)
  exact .inl ⟨xs, q⟩
end
end BX
end
section
set_option Elab.async false
set_option linter.all false
set_option maxRecDepth 100000
set_option maxHeartbeats 8000000
namespace BX
open PySem PySem.Spec PyProof.Rows L2 LamX
open C8 (Cal Mak Met pe_c pe_mk pe_mt pe_mt0 pe_gc)
theorem Sl.comp {js ks : List Nat} {σ0 σ1 σ2 : L2.St} (h1 : Sl ks σ0 σ1) (h2 : Sl js σ1 σ2) (hs : ∀ j ∈ js, j ∈ ks) : Sl ks σ0 σ2 := ⟨h2.len.trans h1.len, fun j hj => (h2.at' j fun z => hj (hs j z)).trans (h1.at' j hj)⟩
theorem ResAt.same {H0 H H' : Hp} {t l a b : Addr} {as : List Addr} {names : List Str} {r : Res} (e : Same H H') (h : ResAt H0 H t l a b as names r) : ResAt H0 H' t l a b as names r :=
  ⟨e _ _ h.tp, e _ _ h.ls, Paired.mapP h.ns fun q n z => e _ _ z, e _ _ h.wa, e _ _ h.wb, h.fa, h.fb, h.fl, h.fs, h.nl, h.nq, h.nab, h.ql⟩
theorem costs_ok {cs : List (Str × Int)} {ks : List Str} {rs : List Row} (h : CsOk cs ks) (p : ks.Perm (rs.map Row.name)) : CostsOk cs rs := by
  refine ⟨?_, fun r hr => ?_⟩
  · have h1 : (cs.map (·.1)).length = ks.length := by rw [h.keys]
    rw [List.length_map, p.length_eq, List.length_map] at h1
    exact h1
  · have hm : r.name ∈ cs.map (·.1) := by
      rw [h.keys]
      exact p.mem_iff.mpr (List.mem_map_of_mem hr)
    obtain ⟨c, hc⟩ := KM.look_mem hm
    exact ⟨c, hc, h.rng _ (KM.look_some_mem hc)⟩
theorem sqL_ext {K : PySem.W.Frag} {H H' : Hp} {a : Addr} {xs : List V} (e : ExtN H H') (h : SqL K H a xs) : SqL K H' a xs := by
  rcases h with (h | ⟨o, h⟩) | h
  · exact .inl (.inl (e _ _ h (fun ps z => by cases z)))
  · exact .inl (.inr ⟨o, e _ _ h (fun ps z => by cases z)⟩)
  · exact .inr h
theorem refs_str {as : List Addr} {x : Str} {vs : List V} (n : as ≠ []) : (V.str x :: vs) ≠ as.map V.ref := by
  cases as with
  | nil => exact absurd rfl n
  | cons a as => exact fun z => by cases z
theorem refs_int {as : List Addr} {x : Int} {vs : List V} (n : as ≠ []) : (V.int x :: vs) ≠ as.map V.ref := by
  cases as with
  | nil => exact absurd rfl n
  | cons a as => exact fun z => by cases z
theorem refs_strs {as : List Addr} {xs : List Str} (n : as ≠ []) : xs.map V.str ≠ as.map V.ref := by
  cases as with
  | nil => exact absurd rfl n
  | cons a as =>
    cases xs with
    | nil => exact fun z => by cases z
    | cons x xs => exact fun z => by cases z
theorem row_del {S : List Addr} {X Hf : Hp} {a : Addr} {r : Row} (h : RowAt X a r) (e : Same X Hf) (n : ∀ b ∈ S, X b = none ∨ ∃ as : List Addr, as ≠ [] ∧ X b = some (.lst (as.map V.ref))) : RowAt (del S Hf) a r := by
  obtain ⟨s, l, h1, h2, h3⟩ := h
  have out : ∀ {y vs}, X y = some (.lst vs) → (∀ as : List Addr, as ≠ [] → vs ≠ as.map V.ref) → y ∉ S := fun {y vs} q m z => by
    rcases n y z with w | ⟨as, w1, w2⟩
    · rw [w] at q
      cases q
    · rw [w2] at q
      exact m as w1 (HO.lst.inj (Option.some.inj q)).symm
  exact ⟨s, l, del_of (out h1 fun as n => refs_str n) (e _ _ h1), del_of (out h2 fun as n => refs_int n) (e _ _ h2), del_of (out h3 fun as n => refs_strs n) (e _ _ h3)⟩
theorem parcel_del {K : PySem.W.Frag} {S : List Addr} {p : Addr} {H0 H1 Hf : Hp} {q : Addr} {r : Row} (h : ParcelN K H0 H1 q r) (c : Chg [p] H1 Hf) (hp : H0 p ≠ none) (hp1 : ∃ xs, H1 p = some (.lst xs)) (li : Lists S Hf)
    (n : ∀ b ∈ S, H0 b ≠ none ∨ H1 b = none ∨ ∃ as : List Addr, as ≠ [] ∧ H1 b = some (.lst (as.map V.ref))) : ParcelAt K (del S Hf) q r := by
  obtain ⟨dx, s, l, h1, ⟨dxs, t, h2, h3⟩, h4, h5⟩ := h
  have np : ∀ {y o}, H1 y = some o → (∀ xs, o ≠ .lst xs) → y ∉ [p] := fun {y o} e m z => by
    obtain ⟨xs, w⟩ := hp1
    rw [List.mem_singleton.mp z, w] at e
    exact m xs (Option.some.inj e).symm
  have out : ∀ {y o}, H1 y = some o → (∀ xs, o ≠ .lst xs) → del S Hf y = some o := fun {y o} e m => del_of (fun z => by
    obtain ⟨xs, w⟩ := li y z
    rw [c _ _ (np e m) e] at w
    exact m xs (Option.some.inj w)) (c _ _ (np e m) e)
  refine ⟨dx, s, l, out h1 (fun _ z => by cases z), ⟨dxs, t, out h2 (fun _ z => by cases z), out h3 (fun _ z => by cases z)⟩, del_of (fun z => ?_) (c _ _ (fun z => ?_) h4)⟩
  · rcases n l z with w | w | ⟨as, w1, w2⟩
    · exact w h5
    · rw [w] at h4
      cases h4
    · rw [w2] at h4
      exact refs_strs w1 (HO.lst.inj (Option.some.inj h4)).symm
  · rw [List.mem_singleton.mp z] at h5
    exact hp h5
theorem paired_mapM {α β : Type} {F F' : α → β → Prop} : ∀ {l : List α} {m : List β}, Paired F l m → (l ≠ [] → ∀ a b, F a b → F' a b) → Paired F' l m
  | _, _, .nil, _ => .nil
  | _, _, .cons r t, h => .cons (h (fun z => by cases z) _ _ r) (Paired.mapP t (h (fun z => by cases z)))
section
variable {P : Program} {w : World} {K : PySem.W.Frag} {mg : Str → Option Value} {base : Heap} {fd : FuncData}
def spLaw : Sp := SpG (G := Addr × List Int) (fun (a, _) => [.ref a]) (fun (a, ns) H => SqL K H a (ns.map V.int) ∧ Tabs (tabsT K) H) (fun _ H v H' => v = .bl true)
abbrev N_law : List PySem.Str := ["_law_script", "_law_k", "_law_purse_here", "_law_spares", "_law_held", "_law_heaps", "_law_called", "_law_turn", "_law_at", "_law_spare_here", "_law_costs_here", "_law_found", "_law_row_here"]
theorem sc_law : FnScope N_law ["_law_script"] d_law.scope := ⟨rfl, rfl, rfl, by decide +kernel, rfl, by decide +kernel, by decide +kernel⟩
theorem r_law (T : TX K mg) (TB : TabB base mg (cPair K).1 (cPair K).2) (F : FunD K d_law.name d_law.qual d_law.params d_law.body d_law.scope (d_law.dvs K) (d_law.kws K) (He.fAd K d_law.at_) fd) : RunG P w K mg base 24 (He.fAd K d_law.at_) fd ["_law_script"] (spLaw (K := K)) := by
  refine runG_of F sc_law (fun _ => rfl) fun cdv A' outer s0 Hs Q E f g hgd hr hp k => ?_
  obtain ⟨a, ns⟩ := g
  obtain ⟨hS, hT⟩ := hp
  refine ⟨_, (pss_cons (ps_for PassesOwn.never rfl (pi_range1 rfl T.n_range (pa_cons (pe_callB (call_max2 rfl) rfl T.n_max b_max (pa_cons pe_int (pa_cons (pe_callB (call_min2 rfl) rfl T.n_min b_min (pa_cons pe_int (pa_cons (pe_callB (call_len_seq) rfl T.n_len b_len (pa_cons (pv 0) pa_nil)) pa_nil))) pa_nil))) pa_nil)) (pg_name (i := 1) sc_law.nd rfl (Or.inl rfl)) (pss_cons (ps_set (i := 2) sc_law.nd rfl (Or.inl rfl) (pe_c (c_law_purse T) hr (by decide) rfl (pa_cons (pe_c (c_law_cell T) hr (by decide) rfl (pa_cons (pv 0) (pa_cons (pv 1) pa_nil))) pa_nil)))
      (pss_cons (ps_set (i := 3) sc_law.nd rfl (Or.inl rfl) (pe_lst (pa_cons (pe_c (c_law_spare T) hr (by decide) rfl (pa_cons (pv 2) pa_nil)) (pa_cons (pe_c (c_law_spare T) hr (by decide) rfl (pa_cons (pv 2) pa_nil)) pa_nil))))
      (pss_cons (ps_set (i := 4) sc_law.nd rfl (Or.inl rfl) (pe_lst (pa_cons (pe_c (c_law_rows T) hr (by decide) rfl (pa_cons (pv 2) (pa_cons (pe_ix (ix_listK K rfl) (pv 3) pe_int (fun _ _ => rfl)) pa_nil))) (pa_cons (pe_c (c_law_rows T) hr (by decide) rfl (pa_cons (pv 2) (pa_cons (pe_ix (ix_listK K rfl) (pv 3) pe_int (fun _ _ => rfl)) pa_nil))) pa_nil))))
      (pss_cons (ps_set (i := 5) sc_law.nd rfl (Or.inl rfl) (pe_lst (pa_cons (pe_c (c_law_heap T) hr (by decide) rfl (pa_cons (pe_ix (ix_listK K rfl) (pv 4) pe_int (fun _ _ => rfl)) pa_nil)) (pa_cons (pe_c (c_law_heap T) hr (by decide) rfl (pa_cons (pe_ix (ix_listK K rfl) (pv 4) pe_int (fun _ _ => rfl)) pa_nil)) pa_nil))))
      (pss_cons (ps_set (i := 6) sc_law.nd rfl (Or.inr rfl) (pe_op op_cat (pe_lc (own := [("_law_row_here", 12)]) rfl sc_law.nd (pi_listK K rfl (pe_ix (ix_listK K rfl) (pv 4) pe_int (fun _ _ => rfl))) (blkOk_by (own := [("_law_row_here", 12)]) (N := N_law) (sc := d_law.scope) (by decide +kernel)) (fun _ _ _ _ _ => (pg_name (i := 12) sc_law.nd rfl (Or.inl rfl))) (fun _ _ _ _ _ => pts_nil) (fun _ _ _ _ _ => (pe_ix (ix_listK K rfl) (pv 12) pe_int (fun _ _ => rfl)))) (pe_c (c_law_names T) hr (by decide) rfl (pa_cons (pv 2) (pa_cons pe_int pa_nil)))))
      (pss_cons (ps_set (i := 6) sc_law.nd rfl (Or.inr rfl) (pe_slice (sl_listK K rfl) (pe_lc (own := [("_law_at", 8)]) rfl sc_law.nd (pi_range1 rfl T.n_range (pa_cons (pe_callB (call_len_seq) rfl T.n_len b_len (pa_cons (pv 6) pa_nil)) pa_nil)) (blkOk_by (own := [("_law_at", 8)]) (N := N_law) (sc := d_law.scope) (by decide +kernel)) (fun _ _ _ _ _ => (pg_name (i := 8) sc_law.nd rfl (Or.inl rfl))) (fun _ _ _ _ _ => (pts_one (pt_cmpR (op_notInK K rfl) (pe_ix (ix_listK K rfl) (pv 6) (pv 8) (fun _ _ => rfl)) (pe_slice (sl_listK K rfl) (pv 6) po_none (po_some (pv 8))) rfl))) (fun _ _ _ _ _ => (pe_ix (ix_listK K rfl) (pv 6) (pv 8) (fun _ _ => rfl)))) po_none (po_some pe_int)))
      (pss_cons (ps_for PassesOwn.never rfl (pi_range1 rfl T.n_range (pa_cons pe_int pa_nil)) (pg_name (i := 7) sc_law.nd rfl (Or.inl rfl)) (pss_cons (ps_set (i := 8) sc_law.nd rfl (Or.inl rfl) (pe_ix (ix_listK K rfl) (pe_lst (pa_cons pe_int (pa_cons pe_int (pa_cons pe_int (pa_cons pe_int (pa_cons pe_int pa_nil)))))) (pv 7) (fun _ _ => rfl)))
        (pss_cons (ps_set (i := 9) sc_law.nd rfl (Or.inl rfl) (pe_ix (ix_listK K rfl) (pv 3) (pe_ix (ix_listK K rfl) (pe_lst (pa_cons pe_int (pa_cons pe_int (pa_cons pe_int (pa_cons pe_int (pa_cons pe_int pa_nil)))))) (pv 7) (fun _ _ => rfl)) (fun _ _ => rfl)))
        (pss_cons (ps_set (i := 10) sc_law.nd rfl (Or.inl rfl) (pe_c (c_law_costs T) hr (by decide) rfl (pa_cons (pv 2) (pa_cons (pe_lc (own := [("_law_row_here", 12)]) rfl sc_law.nd (pi_listK K rfl (pe_ix (ix_listK K rfl) (pv 4) (pv 8) (fun _ _ => rfl))) (blkOk_by (own := [("_law_row_here", 12)]) (N := N_law) (sc := d_law.scope) (by decide +kernel)) (fun _ _ _ _ _ => (pg_name (i := 12) sc_law.nd rfl (Or.inl rfl))) (fun _ _ _ _ _ => pts_nil) (fun _ _ _ _ _ => (pe_ix (ix_listK K rfl) (pv 12) pe_int (fun _ _ => rfl)))) pa_nil))))
        (pss_cons (ps_set (i := 11) sc_law.nd rfl (Or.inl rfl) (pe_c (c_cheapest T TB) hr (by decide) rfl (pa_cons (pe_ix (ix_listK K rfl) (pv 5) (pv 8) (fun _ _ => rfl)) (pa_cons (pe_callTy (call_dictD) rfl T.n_dict b_dict (pa_cons (pv 10) pa_nil)) (pa_cons (pv 9) pa_nil)))))
        (pss_cons (ps_if (pt_not (pt_val (pe_c (c_law_right T) hr (by decide) rfl (pa_cons (pe_ix (ix_listK K rfl) (pv 4) (pv 8) (fun _ _ => rfl)) (pa_cons (pv 10) (pa_cons (pv 9) (pa_cons (pv 11) pa_nil))))))) (pss_one (ps_ret pe_bl)) pss_nil)
        (pss_cons (ps_if (pt_not (pt_val (pe_cG (c_law_asked_again T TB) hgd hr (by decide) rfl (pa_cons (pe_ix (ix_listK K rfl) (pv 4) (pv 8) (fun _ _ => rfl)) (pa_cons (pe_ix (ix_listK K rfl) (pv 5) (pv 8) (fun _ _ => rfl)) (pa_cons (pv 10) (pa_cons (pv 9) (pa_cons (pv 11) pa_nil)))))))) (pss_one (ps_ret pe_bl)) pss_nil)
        (pss_one (ps_if (pt_cmpR (op_eq) (pv 8) pe_int (nomark _)) (pss_one (ps_expr (pe_c (c_law_deed T) hr (by decide) rfl (pa_cons (pv 2) (pa_cons (pe_ix (ix_listK K rfl) (pv 4) pe_int (fun _ _ => rfl)) (pa_cons (pe_ix (ix_listK K rfl) (pv 5) pe_int (fun _ _ => rfl)) (pa_cons (pv 6) (pa_cons (pv 9) pa_nil)))))))) pss_nil)))))))))
      (pss_cons (ps_set (i := 10) sc_law.nd rfl (Or.inl rfl) (pe_c (c_law_costs T) hr (by decide) rfl (pa_cons (pv 2) (pa_cons (pe_lc (own := [("_law_row_here", 12)]) rfl sc_law.nd (pi_listK K rfl (pe_ix (ix_listK K rfl) (pv 4) pe_int (fun _ _ => rfl))) (blkOk_by (own := [("_law_row_here", 12)]) (N := N_law) (sc := d_law.scope) (by decide +kernel)) (fun _ _ _ _ _ => (pg_name (i := 12) sc_law.nd rfl (Or.inl rfl))) (fun _ _ _ _ _ => pts_nil) (fun _ _ _ _ _ => (pe_ix (ix_listK K rfl) (pv 12) pe_int (fun _ _ => rfl)))) pa_nil))))
      (pss_one (ps_if (pt_not (pt_val (pe_c (c_law_right T) hr (by decide) rfl (pa_cons (pe_ix (ix_listK K rfl) (pv 4) pe_int (fun _ _ => rfl)) (pa_cons (pv 10) (pa_cons pe_int (pa_cons (pe_c (c_cheapest1 T TB) hr (by decide) rfl (pa_cons (pe_ix (ix_listK K rfl) (pv 5) pe_int (fun _ _ => rfl)) (pa_cons (pv 10) pa_nil))) pa_nil))))))) (pss_one (ps_ret pe_bl)) pss_nil)))))))))))
    (pss_one (ps_ret pe_bl))), ?_⟩
  have hS0 : ∀ H, ExtN Hs H → SqL K H a (ns.map V.int) := fun H e => sqL_ext e hS
  let σs : L2.St := L2.start N_law [V.ref a]
  refine ⟨_, rfl, a, _, rfl, .inl hS, 4, _, rfl, 2, _, rfl, _, rfl, ?_, ?_, ?_⟩
  · split <;> split <;> omega
  · split <;> split <;> omega
  generalize hN : (if (if ((ns.map V.int).length : Int) < 4 then ((ns.map V.int).length : Int) else 4) > 2 then (if ((ns.map V.int).length : Int) < 4 then ((ns.map V.int).length : Int) else 4) else 2).toNat = N
  have hN4 : N ≤ 4 := by
    rw [← hN]
    split <;> split <;> omega
  have wN := wr N
  rw [List.length_range] at wN
  refine for_it wN (fun i σ H => ExtN Hs H ∧ Tabs (tabsT K) H ∧ Sl [1, 2, 3, 4, 5, 6, 7, 8, 9, 10, 11, 12] σs σ) ⟨ExtN.refl _, hT, Sl.refl⟩ (fun _ _ _ _ _ => trivial) ?_ (fun σ H _ => k _ _ rfl)
  rintro i v σ H Hx hi ⟨xs0, T0, hσ⟩ ⟨hH, z, hz, rfl⟩
  subst hH
  have ez : z = i := by
    rw [List.getElem?_range hi] at hz
    exact (Option.some.inj hz).symm
  subst ez
  have len13 : σ.length = 13 := hσ.len
  have g0 : G σ 0 (.ref a) := hσ.g 0 (by decide) rfl
  let σ1 : L2.St := σ.set 1 (some (.int (z : Nat)))
  have g10 : G σ1 0 (.ref a) := g0.ne (by decide)
  have g11 : G σ1 1 (.int (z : Nat)) := G.self (by rw [len13]; decide)
  -- the purse
  refine ⟨_, g10, _, g11, (a, ns, z), rfl, ⟨hS0 _ xs0, by omega⟩, fun v H0 hv => ?_⟩
  obtain ⟨hH, cell, rfl⟩ := hv
  subst hH
  refine ⟨cell, rfl, trivial, fun v H1 hv => ?_⟩
  obtain ⟨e1, p, rfl, hp0, pu1⟩ := hv
  have l1 : σ1.length = 13 := by
    show (σ.set 1 _).length = 13
    rw [List.length_set, len13]
  let σ2 : L2.St := σ1.set 2 (some (.ref p))
  have l2 : σ2.length = 13 := by
    show (σ1.set 2 _).length = 13
    rw [List.length_set, l1]
  have g20 : G σ2 0 (.ref a) := g10.ne (by decide)
  have g22 : G σ2 2 (.ref p) := G.self (by rw [l1]; decide)
  -- the spares
  refine ⟨_, g22, (p, 0), rfl, ⟨pu1, by decide⟩, fun v H2 hv => ?_⟩
  obtain ⟨s2, sp0, rfl, sp0l, sp0u⟩ := hv
  have pu2 := s2.pu _ pu1
  refine ⟨_, g22, (p, 0 + 3), rfl, ⟨pu2, by decide⟩, fun v H3 hv => ?_⟩
  obtain ⟨s3, sp1, rfl, sp1l, sp1u⟩ := hv
  have pu3 := s3.pu _ pu2
  refine ⟨small 2 (by decide), fun SP hSP => ?_⟩
  have e4 := same_new hSP (.lst [.int sp0, .int sp1])
  have iSP4 : upd H3 SP (.lst [.int sp0, .int sp1]) SP = some (.lst [.int sp0, .int sp1]) := upd_same
  have pu4 : PurseAt (upd H3 SP (.lst [.int sp0, .int sp1])) p 6 := (pu3.same e4).mono (by decide)
  have s14 : Spent p 6 H1 (upd H3 SP (.lst [.int sp0, .int sp1])) := (s2.trans s3).trans (Spent.of e4)
  have nSPp : SP ≠ p := fun z => by
    rw [z] at hSP
    exact pu3.there hSP
  let σ3 : L2.St := σ2.set 3 (some (.ref SP))
  have l3 : σ3.length = 13 := by
    show (σ2.set 3 _).length = 13
    rw [List.length_set, l2]
  have g30 : G σ3 0 (.ref a) := g20.ne (by decide)
  have g32 : G σ3 2 (.ref p) := g22.ne (by decide)
  have g33 : G σ3 3 (.ref SP) := G.self (by rw [l2]; decide)
  -- the rows
  refine ⟨_, g32, _, g33, SP, _, 0, _, rfl, rfl, SqL.of iSP4, rfl, (p, sp0, 6), rfl, ⟨pu4, by decide, sp0l, sp0u⟩, fun v H5 hv => ?_⟩
  obtain ⟨s5, A0, as0, rs0, rfl, hr0, ok0, nl0⟩ := hv
  generalize upd H3 SP (.lst [.int sp0, .int sp1]) = H4 at e4 iSP4 pu4 s14 s5 hr0
  have pu5 := s5.pu _ pu4
  have iSP5 := s5.chg _ _ (fun z => nSPp (List.mem_singleton.mp z)) iSP4
  refine ⟨_, g32, _, g33, SP, _, 1, _, rfl, rfl, SqL.of iSP5, rfl, (p, sp1, 606), rfl, ⟨pu5.mono (by decide), by decide, sp1l, sp1u⟩, fun v H6 hv => ?_⟩
  obtain ⟨s6, A1, as1, rs1, rfl, hr1, ok1, nl1⟩ := hv
  have pu6 := s6.pu _ pu5
  have s16 := (s14.trans s5).trans s6
  refine ⟨small 2 (by decide), fun HD hHD => ?_⟩
  have e7 := same_new hHD (.lst [.ref A0, .ref A1])
  have iHD7 : upd H6 HD (.lst [.ref A0, .ref A1]) HD = some (.lst [.ref A0, .ref A1]) := upd_same
  -- where they stand
  have A04 : H4 A0 = none := (dif_to hr0.ls).1
  have A05 := (dif_to hr0.ls).2
  have A15 : H5 A1 = none := (dif_to hr1.ls).1
  have A16 := (dif_to hr1.ls).2
  have tp4 : ∀ b ∈ [p], H4 b ≠ none := there1 pu4
  have tp5 : ∀ b ∈ [p], H5 b ≠ none := there1 pu5
  have nA0p : A0 ≠ p := fun z => by
    rw [z] at A04
    exact pu4.there A04
  have nA1p : A1 ≠ p := fun z => by
    rw [z] at A15
    exact pu5.there A15
  have nA01 : A0 ≠ A1 := fun z => by
    rw [← z, A05] at A15
    cases A15
  have A06 := s6.chg _ _ (fun z => nA0p (List.mem_singleton.mp z)) A05
  have nHDp : HD ≠ p := fun z => by
    rw [z] at hHD
    exact pu6.there hHD
  let σ4 : L2.St := σ3.set 4 (some (.ref HD))
  have l4 : σ4.length = 13 := by
    show (σ3.set 4 _).length = 13
    rw [List.length_set, l3]
  have g40 : G σ4 0 (.ref a) := g30.ne (by decide)
  have g42 : G σ4 2 (.ref p) := g32.ne (by decide)
  have g43 : G σ4 3 (.ref SP) := g33.ne (by decide)
  have g44 : G σ4 4 (.ref HD) := G.self (by rw [l3]; decide)
  generalize upd H6 HD (.lst [.ref A0, .ref A1]) = H7 at e7 iHD7
  have pu7 := pu6.same e7
  have hr07 : RowsAt H7 A0 as0 rs0 := (hr0.same (dif_mono s6.chg tp4)).same fun b o e => e7 _ _ (dif_same _ _ e)
  have hr17 : RowsAt H7 A1 as1 rs1 := hr1.same fun b o e => e7 _ _ (dif_same _ _ e)
  -- the heaps
  refine ⟨_, g44, HD, _, 0, _, rfl, rfl, SqL.of iHD7, rfl, (A0, as0, rs0), rfl, ⟨hr07, ok0⟩, fun v H8 hv => ?_⟩
  obtain ⟨e8, h0, L0, ps0, rfl, h07, L07, hp0', pn0⟩ := hv
  refine ⟨_, g44, HD, _, 1, _, rfl, rfl, SqL.of (e8 _ _ iHD7), rfl, (A1, as1, rs1), rfl, ⟨hr17.same e8, ok1⟩, fun v H9 hv => ?_⟩
  obtain ⟨e9, h1, L1, ps1, rfl, h18, L18, hp1', pn1⟩ := hv
  refine ⟨small 2 (by decide), fun HP hHP => ?_⟩
  have e10 := same_new hHP (.lst [.ref h0, .ref h1])
  have iHP10 : upd H9 HP (.lst [.ref h0, .ref h1]) HP = some (.lst [.ref h0, .ref h1]) := upd_same
  have e710 : Same H7 (upd H9 HP (.lst [.ref h0, .ref h1])) := fun b o e => e10 _ _ (e9 _ _ (e8 _ _ e))
  let σ5 : L2.St := σ4.set 5 (some (.ref HP))
  have l5 : σ5.length = 13 := by
    show (σ4.set 5 _).length = 13
    rw [List.length_set, l4]
  have g50 : G σ5 0 (.ref a) := g40.ne (by decide)
  have g52 : G σ5 2 (.ref p) := g42.ne (by decide)
  have g53 : G σ5 3 (.ref SP) := g43.ne (by decide)
  have g54 : G σ5 4 (.ref HD) := g44.ne (by decide)
  have g55 : G σ5 5 (.ref HP) := G.self (by rw [l4]; decide)
  generalize upd H9 HP (.lst [.ref h0, .ref h1]) = H10 at e10 iHP10 e710
  have pu10 := pu7.same e710
  have hr010 := hr07.same e710
  have len0 := hr010.len
  have hls := hr010.ls
  have hzw : as0.map V.ref = (as0.zip rs0).map fun z => V.ref z.1 := by
    conv => lhs; rw [← List.map_fst_zip (Nat.le_of_eq len0)]
    rw [List.map_map]
    rfl
  rw [hzw] at hls
  have r012 := ok0.l12
  -- the names that may be put
  refine ⟨_, g54, HD, _, 0, _, rfl, rfl, SqL.of (e710 _ _ iHD7), rfl, A0, rfl, ⟨_, SqL.of hls⟩, fun D hD => ?_⟩
  refine lc_map (J := Itl _ A0) (l := as0.zip rs0) (fun z => V.ref z.1) (fun z => V.str z.2.name) (wl (as0.zip rs0) fun z => V.ref z.1) (fun _ e => sg hls e) (by rw [List.length_zip]; omega) hD ?_ gN ?_
  · rintro ⟨ra, rr⟩ H' hm hs Qy y
    obtain ⟨sx, lx, w1, _⟩ := (paired_zip hr010.ps hm).same hs
    exact ⟨wipe1, _, G.self (by show 12 < (σ5.set 12 none).length; rw [List.length_set, l5]; decide), ra, _, 0, _, rfl, rfl, SqL.of w1, rfl, y _ fun _ _ h => h⟩
  intro H11 e11 hD11
  have hD11' : H11 D = some (.lst ((rs0.map Row.name).map V.str)) := by
    rw [hD11]
    conv => rhs; rw [← List.map_snd_zip (Nat.le_of_eq len0.symm)]
    rw [List.map_map, List.map_map]
    rfl
  have pu11 := pu10.same e11
  refine ⟨_, g52, (p, 12, _), rfl, ⟨pu11, by decide, by decide⟩, fun v H12 hv => ?_⟩
  obtain ⟨s12, NL, xs, rfl, hNL0, hNL, hxl, hxn, hxo⟩ := hv
  have pu12 := s12.pu _ pu11
  have nDp : D ≠ p := fun z => by
    rw [z] at hD
    exact pu10.there hD
  have hD12 := s12.chg _ _ (fun z => nDp (List.mem_singleton.mp z)) hD11'
  refine ⟨D, NL, _, _, rfl, rfl, hD12, hNL, ?_, fun CC hCC => ?_⟩
  · rw [List.length_map, List.length_map, List.length_map]
    exact small _ (by omega)
  rw [← List.map_append]
  have e13 := same_new hCC (.lst ((rs0.map Row.name ++ xs).map V.str))
  have iCC : upd H12 CC (.lst ((rs0.map Row.name ++ xs).map V.str)) CC = some (.lst ((rs0.map Row.name ++ xs).map V.str)) := upd_same
  have ysl : (rs0.map Row.name ++ xs).length ≤ 24 := by
    rw [List.length_append, List.length_map]
    omega
  generalize hys : rs0.map Row.name ++ xs = ys at e13 iCC ysl
  let σ6 : L2.St := σ5.set 6 (some (.ref CC))
  have l6 : σ6.length = 13 := by
    show (σ5.set 6 _).length = 13
    rw [List.length_set, l5]
  have g66 : G σ6 6 (.ref CC) := G.self (by rw [l5]; decide)
  have g60 : G σ6 0 (.ref a) := g50.ne (by decide)
  have g62 : G σ6 2 (.ref p) := g52.ne (by decide)
  have g63 : G σ6 3 (.ref SP) := g53.ne (by decide)
  have g64 : G σ6 4 (.ref HD) := g54.ne (by decide)
  have g65 : G σ6 5 (.ref HP) := g55.ne (by decide)
  generalize upd H12 CC (.lst (ys.map V.str)) = H13 at e13 iCC
  refine ⟨_, g66, CC, _, rfl, .inl (SqL.of iCC), _, rfl, by rw [List.length_map]; omega, by rw [List.length_map]; omega, fun D2 hD2 => ?_⟩
  have etn : (((ys.map V.str).length : Nat) : Int).toNat = ys.length := by
    rw [List.length_map]
    exact Int.toNat_natCast _
  rw [etn]
  refine lc_pure (J := Itr 0 ys.length) (l := List.range ys.length) (fun i => V.int (i : Nat)) (fun k => (nubF ys k).map V.str) (wr _) (fun _ _ => trivial) (by rw [List.length_range]; omega) hD2 ?_ ?_
  · intro j H' hj hs Qy Qn y n
    have hj' := List.mem_range.mp hj
    have hyj : ys[j]? = some (ys[j]'hj') := List.getElem?_eq_getElem hj'
    generalize ys[j]'hj' = yj at hyj
    have w6 : G ((wipe σ6 [8]).set 8 (some (.int (j : Nat)))) 6 (.ref CC) := by
      show G ((σ6.set 8 none).set 8 _) 6 _
      exact (g66.ne (by decide)).ne (by decide)
    have w8 : G ((wipe σ6 [8]).set 8 (some (.int (j : Nat)))) 8 (.int (j : Nat)) := G.self (by show 8 < (σ6.set 8 none).length; rw [List.length_set, l6]; decide)
    have hCC' := hs _ _ iCC
    have aj : atI (ys.map V.str) (j : Nat) = some (.str yj) := atI_nat (by rw [List.getElem?_map, hyj]; rfl)
    refine ⟨wipe1, _, w6, _, w8, CC, _, _, _, rfl, rfl, SqL.of hCC', aj, _, w6, _, w8, _, rfl, CC, _, rfl, SqL.of hCC', fun q hq => ?_⟩
    rw [cut_takeN, ← List.map_take]
    have eq' := same_new hq (.lst ((ys.take j).map V.str))
    refine ⟨q, _, rfl, .inl (SqL.of upd_same), rfl, flat_strs _, _, rfl, ?_⟩
    rw [if_pos rfl, inV_str]
    have en : nubF ys j = if yj ∉ ys.take j then some yj else none := by
      unfold nubF
      rw [hyj]
    by_cases hm : yj ∈ ys.take j
    · rw [decide_eq_true hm]
      refine iteF (n _ ?_ eq')
      rw [en, if_neg (fun z => z hm)]
      rfl
    · rw [decide_eq_false hm]
      refine iteT ⟨_, w6, _, w8, CC, _, _, _, rfl, rfl, SqL.of (eq' _ _ hCC'), aj, y _ _ ?_ eq'⟩
      rw [en, if_pos hm]
      rfl
  intro H14 e14 hD14
  have hD14' : H14 D2 = some (.lst ((nub ys).map V.str)) := by
    rw [hD14]
    unfold nub
    rw [List.map_filterMap]
  refine ⟨12, rfl, D2, _, rfl, SqL.of hD14', fun CN hCN => ?_⟩
  rw [show (12 : Int) = ((12 : Nat) : Int) from rfl, cut_takeN, ← List.map_take]
  have e15 := same_new hCN (.lst (((nub ys).take 12).map V.str))
  have iCN : upd H14 CN (.lst (((nub ys).take 12).map V.str)) CN = some (.lst (((nub ys).take 12).map V.str)) := upd_same
  let σ7 : L2.St := σ6.set 6 (some (.ref CN))
  have l7 : σ7.length = 13 := by
    show (σ6.set 6 _).length = 13
    rw [List.length_set, l6]
  have g70 : G σ7 0 (.ref a) := g60.ne (by decide)
  have g72 : G σ7 2 (.ref p) := g62.ne (by decide)
  have g73 : G σ7 3 (.ref SP) := g63.ne (by decide)
  have g74 : G σ7 4 (.ref HD) := g64.ne (by decide)
  have g75 : G σ7 5 (.ref HP) := g65.ne (by decide)
  have g76 : G σ7 6 (.ref CN) := G.self (by rw [l6]; decide)
  generalize upd H14 CN (.lst (((nub ys).take 12).map V.str)) = H15 at e15 iCN
  -- all of it at once
  have e1215 : Same H12 H15 := fun b o e => e15 _ _ (e14 _ _ (e13 _ _ e))
  have s1015 : Spent p 20 H10 H15 := ((Spent.of e11).trans s12).trans (Spent.of e1215)
  have s715 : Spent p 20 H7 H15 := (Spent.of e710).trans s1015
  have s615 : Spent p 20 H6 H15 := (Spent.of e7).trans s715
  have s515 := s6.trans s615
  have s415 := s5.trans s515
  have s115 := s14.trans s415
  have pu15 : PurseAt H15 p 2000 := (s115.pu _ pu1).mono (by decide)
  have sameAll : Same H0 H15 := fun b o e => s115.chg _ _ (fun z => by
    rw [List.mem_singleton.mp z, hp0] at e
    cases e) (e1 _ _ e)
  have nL0p : L0 ≠ p := fun z => by
    rw [z] at L07
    exact pu7.there L07
  have nL1p : L1 ≠ p := fun z => by
    rw [z] at L18
    exact (pu7.same e8).there L18
  have A07 := e7 _ _ A06
  have A17 := e7 _ _ A16
  have nA0L0 : A0 ≠ L0 := fun z => by
    rw [← z, A07] at L07
    cases L07
  have nA1L0 : A1 ≠ L0 := fun z => by
    rw [← z, A17] at L07
    cases L07
  have nA0L1 : A0 ≠ L1 := fun z => by
    rw [← z, e8 _ _ A07] at L18
    cases L18
  have nA1L1 : A1 ≠ L1 := fun z => by
    rw [← z, e8 _ _ A17] at L18
    cases L18
  have L08 := hp0'.ls
  have L19 := hp1'.ls
  have nL01 : L0 ≠ L1 := fun z => by
    rw [← z, L08] at L18
    cases L18
  have to15 : ∀ {b o}, b ≠ p → H7 b = some o → H15 b = some o := fun {b o} n e => s715.chg _ _ (fun z => n (List.mem_singleton.mp z)) e
  have fro8 : ∀ {b o}, b ≠ p → H8 b = some o → H15 b = some o := fun {b o} n e => s1015.chg _ _ (fun z => n (List.mem_singleton.mp z)) (e10 _ _ (e9 _ _ e))
  have fro9 : ∀ {b o}, b ≠ p → H9 b = some o → H15 b = some o := fun {b o} n e => s1015.chg _ _ (fun z => n (List.mem_singleton.mp z)) (e10 _ _ e)
  let S : List Addr := [p, A0, L0, A1, L1]
  have mS : ∀ b ∈ S, b = p ∨ b = A0 ∨ b = L0 ∨ b = A1 ∨ b = L1 := fun b hb => by simpa [S] using hb
  have li15 : Lists S H15 := fun b hb => by
    rcases mS b hb with rfl | rfl | rfl | rfl | rfl
    · obtain ⟨_, _, _, q, _⟩ := pu15
      exact ⟨_, q⟩
    · exact ⟨_, to15 nA0p A07⟩
    · exact ⟨_, fro8 nL0p L08⟩
    · exact ⟨_, to15 nA1p A17⟩
    · exact ⟨_, fro9 nL1p L19⟩
  have L05 : H5 L0 = none := s6.dom pu5 L0 (Dom.of e7 L0 L07)
  have L17 : H7 L1 = none := Dom.of e8 L1 L18
  have L16 : H6 L1 = none := Dom.of e7 L1 L17
  have L15 : H5 L1 = none := s6.dom pu5 L1 L16
  have L04 : H4 L0 = none := s5.dom pu4 L0 L05
  have L14 : H4 L1 = none := s5.dom pu4 L1 L15
  have A14 : H4 A1 = none := s5.dom pu4 A1 A15
  have ndif : ∀ {X Y : Hp} {b : Addr}, X b ≠ none → dif X Y b = none := fun {X Y b} n => by
    cases q : dif X Y b with
    | none => rfl
    | some u => exact absurd (dif_to q).1 n
  have ndif2 : ∀ {X Y : Hp} {b : Addr}, Y b = none → dif X Y b = none := fun {X Y b} n => by
    cases q : dif X Y b with
    | none => rfl
    | some u =>
      have := (dif_to q).2
      rw [n] at this
      cases this
  -- the rows, away from what is written
  have d45 : Same (dif H4 H5) H15 := fun b o e => dif_same _ _ (dif_mono s515.chg tp4 b o e)
  have d56 : Same (dif H5 H6) H15 := fun b o e => dif_same _ _ (dif_mono s615.chg tp5 b o e)
  have rp0 : Paired (RowAt (del S H15)) as0 rs0 := paired_mapM hr0.ps fun ne0 a r q => row_del q d45 fun b hb => by
    rcases mS b hb with rfl | rfl | rfl | rfl | rfl
    · exact .inl (ndif pu4.there)
    · exact .inr ⟨as0, ne0, hr0.ls⟩
    · exact .inl (ndif2 L05)
    · exact .inl (ndif2 A15)
    · exact .inl (ndif2 L15)
  have rp1 : Paired (RowAt (del S H15)) as1 rs1 := paired_mapM hr1.ps fun ne1 a r q => row_del q d56 fun b hb => by
    rcases mS b hb with rfl | rfl | rfl | rfl | rfl
    · exact .inl (ndif pu5.there)
    · exact .inl (ndif (by rw [A05]; exact fun z => by cases z))
    · exact .inl (ndif2 (Dom.of e7 _ L07))
    · exact .inr ⟨as1, ne1, hr1.ls⟩
    · exact .inl (ndif2 L16)
  have pu7' : ∃ xs, H7 p = some (.lst xs) := by
    obtain ⟨_, _, _, q, _⟩ := pu7
    exact ⟨_, q⟩
  have pp0 : Paired (fun q r => ParcelAt K (del S H15) q r) ps0 rs0 := paired_mapM pn0 fun ne0 q r y => parcel_del y (Chg.trans (Chg.of (fun b o e => e10 _ _ (e9 _ _ e))) s1015.chg) pu7.there (by
      obtain ⟨xs, q⟩ := pu7'
      exact ⟨xs, e8 _ _ q⟩) li15 fun b hb => by
    rcases mS b hb with rfl | rfl | rfl | rfl | rfl
    · exact .inl pu7.there
    · exact .inl (by rw [A07]; exact fun z => by cases z)
    · exact .inr (.inr ⟨ps0, ne0, L08⟩)
    · exact .inl (by rw [A17]; exact fun z => by cases z)
    · exact .inr (.inl L18)
  have pp1 : Paired (fun q r => ParcelAt K (del S H15) q r) ps1 rs1 := paired_mapM pn1 fun ne1 q r y => parcel_del y (Chg.trans (Chg.of e10) s1015.chg) (pu7.same e8).there (by
      obtain ⟨xs, q⟩ := pu7'
      exact ⟨xs, e9 _ _ (e8 _ _ q)⟩) li15 fun b hb => by
    rcases mS b hb with rfl | rfl | rfl | rfl | rfl
    · exact .inl (pu7.same e8).there
    · exact .inl (by rw [e8 _ _ A07]; exact fun z => by cases z)
    · exact .inl (by rw [L08]; exact fun z => by cases z)
    · exact .inl (by rw [e8 _ _ A17]; exact fun z => by cases z)
    · exact .inr (.inr ⟨ps1, ne1, L19⟩)
  have notS : ∀ {b o}, H15 b = some o → (∀ xs, o ≠ .lst xs) → b ∉ S := fun {b o} e n z => by
    obtain ⟨xs, q⟩ := li15 b z
    rw [e] at q
    exact n xs (Option.some.inj q)
  obtain ⟨dx0, ob0⟩ := hp0'.ob
  obtain ⟨dx1, ob1⟩ := hp1'.ob
  have nh0p : h0 ≠ p := fun z => by
    obtain ⟨xs, q⟩ := pu7'
    rw [z, e8 _ _ q] at ob0
    cases ob0
  have nh1p : h1 ≠ p := fun z => by
    obtain ⟨xs, q⟩ := pu7'
    rw [z, e9 _ _ (e8 _ _ q)] at ob1
    cases ob1
  have ob0' := fro8 nh0p ob0
  have ob1' := fro9 nh1p ob1
  have sd0 : Side K S H15 A0 h0 L0 as0 rs0 ps0 := ⟨to15 nA0p A07, fro8 nL0p L08, ⟨dx0, del_of (notS ob0' (fun _ z => by cases z)) ob0'⟩, rp0, pp0⟩
  have sd1 : Side K S H15 A1 h1 L1 as1 rs1 ps1 := ⟨to15 nA1p A17, fro9 nL1p L19, ⟨dx1, del_of (notS ob1' (fun _ z => by cases z)) ob1'⟩, rp1, pp1⟩
  have in0 : SideIn K S H15 p A0 h0 L0 as0 rs0 ps0 2000 := ⟨pu15, li15, sd0, ok0, by simp [S], by simp [S], by simp [S], nA0p.symm, nL0p.symm, nA0L0⟩
  have in1 : SideIn K S H15 p A1 h1 L1 as1 rs1 ps1 2000 := ⟨pu15, li15, sd1, ok1, by simp [S], by simp [S], by simp [S], nA1p.symm, nL1p.symm, nA1L1⟩
  have frS : ∀ b ∈ S, H0 b = none := fun b hb => by
    have d0 : Dom H0 H4 := (Dom.of e1).trans (s14.dom pu1)
    rcases mS b hb with rfl | rfl | rfl | rfl | rfl
    · exact hp0
    · exact d0 _ A04
    · exact d0 _ L04
    · exact d0 _ A14
    · exact d0 _ L14
  have inP : ∀ {b : Addr} {X : Hp}, X b = none → (∀ y ∈ S, X y ≠ none) → b ∉ S := fun {b X} n m z => m b z n
  have iSP15 : H15 SP = some (.lst [.int sp0, .int sp1]) := s415.chg _ _ (fun z => nSPp (List.mem_singleton.mp z)) iSP4
  have iHD15 : H15 HD = some (.lst [.ref A0, .ref A1]) := to15 nHDp iHD7
  have nHPp : HP ≠ p := fun z => by
    rw [z] at hHP
    exact ((pu7.same e8).same e9).there hHP
  have iHP15 : H15 HP = some (.lst [.ref h0, .ref h1]) := s1015.chg _ _ (fun z => nHPp (List.mem_singleton.mp z)) iHP10
  have SPS : SP ∉ S := fun hb => by
    rcases mS SP hb with z | z | z | z | z
    · exact nSPp z
    · rw [z, A04] at iSP4
      cases iSP4
    · rw [z, L04] at iSP4
      cases iSP4
    · rw [z, A14] at iSP4
      cases iSP4
    · rw [z, L14] at iSP4
      cases iSP4
  have HDS : HD ∉ S := fun hb => by
    rcases mS HD hb with z | z | z | z | z
    · exact nHDp z
    · rw [z, A06] at hHD
      cases hHD
    · rw [z, L07] at iHD7
      cases iHD7
    · rw [z, A16] at hHD
      cases hHD
    · rw [z, L17] at iHD7
      cases iHD7
  have HPS : HP ∉ S := fun hb => by
    rcases mS HP hb with z | z | z | z | z
    · exact nHPp z
    · rw [z, e9 _ _ (e8 _ _ A07)] at hHP
      cases hHP
    · rw [z, e9 _ _ L08] at hHP
      cases hHP
    · rw [z, e9 _ _ (e8 _ _ A17)] at hHP
      cases hHP
    · rw [z, L19] at hHP
      cases hHP
  have pu14 : PurseAt H14 p 2000 := by
    obtain ⟨gg, a1, n, q1, q2⟩ := pu12
    exact PurseAt.mono ⟨gg, a1, n, e14 _ _ (e13 _ _ q1), q2⟩ (by decide)
  have s1014 : Spent p 20 H10 H14 := ((Spent.of e11).trans s12).trans (Spent.of fun b o e => e14 _ _ (e13 _ _ e))
  have CNS : CN ∉ S := fun hb => by
    have to14 : ∀ {b o}, b ≠ p → H10 b = some o → H14 b = some o := fun {b o} n e => s1014.chg _ _ (fun z => n (List.mem_singleton.mp z)) e
    rcases mS CN hb with z | z | z | z | z
    · rw [z] at hCN
      exact pu14.there hCN
    · rw [z, to14 nA0p (e710 _ _ A07)] at hCN
      cases hCN
    · rw [z, to14 nL0p (e10 _ _ (e9 _ _ L08))] at hCN
      cases hCN
    · rw [z, to14 nA1p (e710 _ _ A17)] at hCN
      cases hCN
    · rw [z, to14 nL1p (e10 _ _ L19)] at hCN
      cases hCN
  have xsne : xs ≠ [] := fun z => by
    rw [z] at hxl
    cases hxl
  obtain ⟨rest, hrest⟩ := nub_prefix ok0.nd xs
  rw [hys] at hrest
  have ysne : ys ≠ [] := fun z => by
    rw [z] at hys
    exact xsne (List.append_eq_nil_iff.mp hys).2
  have yok : ∀ y ∈ ys, NameOk y := fun y hy => by
    rw [← hys] at hy
    rcases List.mem_append.mp hy with q | q
    · obtain ⟨r, hr', e⟩ := List.mem_map.mp q
      rw [← e]
      exact (ok0.ok r hr').nm
    · exact hxo y q
  let fx : Fx := ⟨S, p, A0, h0, L0, A1, h1, L1, SP, HD, HP, CN, sp0, sp1, (nub ys).take 12⟩
  have ls0 : LS K Hs H15 fx as0 rs0 ps0 as1 rs1 ps1 2000 := by
    refine ⟨in0, in1, not3 nA1p nA01.symm nA1L0, not3 nL1p nA0L1.symm nL01.symm, del_of SPS iSP15, del_of HDS iHD15, del_of HPS iHP15, del_of CNS iCN, fun r hr' => ?_, fun y hy => yok y (nub_mem (List.mem_of_mem_take hy)), ?_, fun z => ?_, T0.ext sameAll, xs0.trans (ext_of sameAll), fun b hb => Fresh.of xs0 (frS b hb), ⟨sp0l, sp0u⟩, ⟨sp1l, sp1u⟩⟩
    · show r.name ∈ (nub ys).take 12
      rw [hrest, List.take_append]
      refine List.mem_append_left _ ?_
      rw [List.take_of_length_le (by rw [List.length_map]; exact r012)]
      exact List.mem_map_of_mem hr'
    · show ((nub ys).take 12).length ≤ 12
      rw [List.length_take]
      omega
    · have := nub_ne ysne
      rcases List.take_eq_nil_iff.mp z with q | q
      · cases q
      · exact this q
  have hσ7 : Sl [1, 2, 3, 4, 5, 6, 7, 8, 9, 10, 11, 12] σs σ7 := (((((hσ.set (i := 1) (by decide)).set (i := 2) (by decide)).set (i := 3) (by decide)).set (i := 4) (by decide)).set (i := 5) (by decide)).set (i := 6) (by decide) |>.set (i := 6) (by decide)
  -- the turns
  have w5 := wr 5
  rw [List.length_range] at w5
  refine ⟨5, rfl, by decide, by decide, ?_⟩
  refine for_it w5 (fun i σ' H' => Sl [7, 8, 9, 10, 11, 12] σ7 σ' ∧ ∃ as0 rs0 ps0 as1 rs1 ps1, LS K Hs H' fx as0 rs0 ps0 as1 rs1 ps1 (2000 + 200 * i)) ⟨Sl.refl, as0, rs0, ps0, as1, rs1, ps1, ls0⟩ (fun _ _ _ _ _ => trivial) ?_ ?_
  · clear in0 in1 sd0 sd1 pp0 pp1 rp0 rp1 hr0 hr1 hr07 hr17 hr010 hp0' hp1' pn0 pn1 ls0 ok0 ok1 r012 hrest yok
    rintro j v σt Ht Hu hj ⟨hσt, as0, rs0, ps0, as1, rs1, ps1, ls⟩ ⟨hH, z, hz, rfl⟩
    subst hH
    have ez : z = j := by
      rw [List.getElem?_range hj] at hz
      exact (Option.some.inj hz).symm
    subst ez
    have lt : σt.length = 13 := hσt.len.trans l7
    have pick0 : ∃ at' ix : Int, (at' = 0 ∨ at' = 1) ∧ (ix = 0 ∨ ix = 1) ∧ atI [V.int 1, V.int 0, V.int 1, V.int 0, V.int 0] (z : Nat) = some (.int at') ∧ atI [V.int 0, V.int 1, V.int 1, V.int 0, V.int 0] (z : Nat) = some (.int ix) := by
      match z, hj with
      | 0, _ => exact ⟨1, 0, .inr rfl, .inl rfl, rfl, rfl⟩
      | 1, _ => exact ⟨0, 1, .inl rfl, .inr rfl, rfl, rfl⟩
      | 2, _ => exact ⟨1, 1, .inr rfl, .inr rfl, rfl, rfl⟩
      | 3, _ => exact ⟨0, 0, .inl rfl, .inl rfl, rfl, rfl⟩
      | 4, _ => exact ⟨0, 0, .inl rfl, .inl rfl, rfl, rfl⟩
    obtain ⟨at', ix, hat, hix, at8, at9⟩ := pick0
    have pick1 : ∃ (A h L : Addr) (as : List Addr) (rs : List Row) (ps : List Addr), atI [V.ref A0, V.ref A1] at' = some (.ref A) ∧ atI [V.ref h0, V.ref h1] at' = some (.ref h) ∧ ∀ H' c', LS K Hs H' fx as0 rs0 ps0 as1 rs1 ps1 c' → SideIn K S H' p A h L as rs ps c' := by
      rcases hat with rfl | rfl
      · exact ⟨A0, h0, L0, as0, rs0, ps0, rfl, rfl, fun H' c' l => l.i0⟩
      · exact ⟨A1, h1, L1, as1, rs1, ps1, rfl, rfl, fun H' c' l => l.i1⟩
    obtain ⟨A, h, L, as, rs, ps, hA, hh, pick⟩ := pick1
    have pick2 : ∃ spv : Int, atI [V.int sp0, V.int sp1] ix = some (.int spv) ∧ 0 ≤ spv ∧ spv ≤ 1000 := by
      rcases hix with rfl | rfl
      · exact ⟨sp0, rfl, sp0l, sp0u⟩
      · exact ⟨sp1, rfl, sp1l, sp1u⟩
    obtain ⟨spv, hspv, spv0, spv1⟩ := pick2
    let τ1 : L2.St := σt.set 7 (some (.int (z : Nat)))
    have t1 : Sl [7, 8, 9, 10, 11, 12] σ7 τ1 := hσt.set (by decide)
    have m1 : τ1.length = 13 := by
      show (σt.set 7 _).length = 13
      rw [List.length_set, lt]
    have k17 : G τ1 7 (.int (z : Nat)) := G.self (by rw [lt]; decide)
    -- which one, which spare
    refine ⟨small 5 (by decide), fun q1 hq1 => ?_⟩
    have f1 := same_new hq1 (.lst [.int 1, .int 0, .int 1, .int 0, .int 0])
    refine ⟨_, k17, q1, _, _, _, rfl, rfl, SqL.of upd_same, at8, ?_⟩
    have ls1 := ls.same f1
    let τ2 : L2.St := τ1.set 8 (some (.int at'))
    have t2 : Sl [7, 8, 9, 10, 11, 12] σ7 τ2 := t1.set (by decide)
    have m2 : τ2.length = 13 := by
      show (τ1.set 8 _).length = 13
      rw [List.length_set, m1]
    have k27 : G τ2 7 (.int (z : Nat)) := k17.ne (by decide)
    have k28 : G τ2 8 (.int at') := G.self (by rw [m1]; decide)
    refine ⟨_, t2.G (by decide) g73, small 5 (by decide), fun q2 hq2 => ?_⟩
    have f2 := same_new hq2 (.lst [.int 0, .int 1, .int 1, .int 0, .int 0])
    have ls2 := ls1.same f2
    refine ⟨_, k27, q2, _, _, _, rfl, rfl, SqL.of upd_same, at9, SP, _, _, _, rfl, rfl, SqL.of (del_to ls2.sp).2, hspv, ?_⟩
    let τ3 : L2.St := τ2.set 9 (some (.int spv))
    have t3 : Sl [7, 8, 9, 10, 11, 12] σ7 τ3 := t2.set (by decide)
    have m3 : τ3.length = 13 := by
      show (τ2.set 9 _).length = 13
      rw [List.length_set, m2]
    have k38 : G τ3 8 (.int at') := k28.ne (by decide)
    have k39 : G τ3 9 (.int spv) := G.self (by rw [m2]; decide)
    have i2 := pick _ _ ls2
    have ok := i2.ok
    have r12 := ok.l12
    have row2 := i2.sd.rows
    have zl := row2.len
    have hls2 := row2.ls
    have hzw2 : as.map V.ref = (as.zip rs).map fun z => V.ref z.1 := by
      conv => lhs; rw [← List.map_fst_zip (Nat.le_of_eq zl)]
      rw [List.map_map]
      rfl
    rw [hzw2] at hls2
    -- costs
    refine ⟨_, t3.G (by decide) g72, _, t3.G (by decide) g74, _, k38, HD, _, _, _, rfl, rfl, SqL.of (del_to ls2.hd).2, hA, A, rfl, ⟨_, SqL.of hls2⟩, fun D hD => ?_⟩
    refine lc_map (J := Itl _ A) (l := as.zip rs) (fun z => V.ref z.1) (fun z => V.str z.2.name) (wl (as.zip rs) fun z => V.ref z.1) (fun _ e => sg hls2 e) (by rw [List.length_zip]; omega) hD ?_ gN ?_
    · rintro ⟨ra, rr⟩ H' hm hs Qy y
      obtain ⟨sx, lx, w1, _⟩ := (paired_zip row2.ps hm).same hs
      exact ⟨wipe1, _, G.self (by show 12 < (τ3.set 12 none).length; rw [List.length_set, m3]; decide), ra, _, 0, _, rfl, rfl, SqL.of w1, rfl, y _ fun _ _ h => h⟩
    intro H3' f3 hD3
    have hD3' : H3' D = some (.lst ((rs.map Row.name).map V.str)) := by
      rw [hD3]
      conv => rhs; rw [← List.map_snd_zip (Nat.le_of_eq zl.symm)]
      rw [List.map_map, List.map_map]
      rfl
    have ls3 := ls2.same f3
    have i3 := pick _ _ ls3
    have nDp' : D ≠ p := fun q => by
      rw [q] at hD
      exact i2.pu.there hD
    have hsk : ∀ y ∈ rs.map Row.name, SOk y := fun y hy => rows_sok ok spv y (by rw [out_keys]; exact hy)
    refine ⟨(p, D, rs.map Row.name, _), rfl, ⟨i3.pu, by omega, nDp', hD3', ok.nd, by rw [List.length_map]; exact r12, hsk⟩, fun v H4' hv => ?_⟩
    obtain ⟨s4', d, cs, ks, rfl, hd0, hd, hcs, hkp⟩ := hv
    have ls4 := ls3.spent s4'
    have cok := costs_ok hcs hkp
    let τ4 : L2.St := τ3.set 10 (some (.ref d))
    have t4 : Sl [7, 8, 9, 10, 11, 12] σ7 τ4 := t3.set (by decide)
    have m4 : τ4.length = 13 := by
      show (τ3.set 10 _).length = 13
      rw [List.length_set, m3]
    have k48 : G τ4 8 (.int at') := k38.ne (by decide)
    have k49 : G τ4 9 (.int spv) := k39.ne (by decide)
    have k410 : G τ4 10 (.ref d) := G.self (by rw [m3]; decide)
    -- cheapest
    refine ⟨_, t4.G (by decide) g75, _, k48, HP, _, _, _, rfl, rfl, SqL.of (del_to ls4.hp).2, hh, _, k410, d, _, rfl, .inl hd, fun dc hdc => ?_⟩
    have f5 := same_new hdc (.dK (dmap V.int cs))
    have idc : upd H4' dc (.dK (dmap V.int cs)) dc = some (.dK (dmap V.int cs)) := upd_same
    have ls5 := ls4.same f5
    have hd5 := f5 _ _ hd
    generalize upd H4' dc (.dK (dmap V.int cs)) = Hc at f5 idc ls5 hd5
    have i5 := pick _ _ ls5
    refine ⟨_, k49, (h, dc, L, ps, rs, cs, spv), rfl, ⟨i5.sd.heap, ok, idc, cok, spv0, spv1, ls5.tb⟩, fun v H6' hv => ?_⟩
    obtain ⟨x6, T6, t, l, a', b', qs, rfl, hres⟩ := hv
    obtain ⟨hsh, hbd⟩ := cheap_ok ok cok spv0
    have ls6 := ls5.ext x6 T6
    have i6 := pick _ _ ls6
    have hd6 := x6 _ _ hd5 (fun ps z => by cases z)
    let τ5 : L2.St := τ4.set 11 (some (.ref t))
    have t5 : Sl [7, 8, 9, 10, 11, 12] σ7 τ5 := t4.set (by decide)
    have k58 : G τ5 8 (.int at') := k48.ne (by decide)
    have k59 : G τ5 9 (.int spv) := k49.ne (by decide)
    have k510 : G τ5 10 (.ref d) := k410.ne (by decide)
    have k511 : G τ5 11 (.ref t) := G.self (by rw [m4]; decide)
    refine ⟨_, t5.G (by decide) g74, _, k58, HD, _, _, _, rfl, rfl, SqL.of (del_to ls6.hd).2, hA, _, k510, _, k59, _, k511, (A, d, spv, t, as, rs, cs, l, a', b', qs, cheapM spv rs (costOf cs)), rfl, ⟨i6.sd.rows, ok, spv0, hd6, cok, hres.tp, hres.r, hsh⟩, fun v H7' hv => ?_⟩
    obtain ⟨e7', rfl⟩ := hv
    refine ⟨_, rfl, iteF ?_⟩
    have x7 : ExtN Hc H7' := x6.trans (ext_of e7')
    have T7 := T6.ext e7'
    have ls7 := ls5.ext x7 T7
    have kn : (cs.map (·.1)).Nodup := by
      rw [hcs.keys, hkp.nodup_iff]
      exact ok.nd
    have ksk : ∀ y ∈ cs.map (·.1), SOk y := fun y hy => by
      rw [hcs.keys] at hy
      exact hsk y (hkp.mem_iff.mp hy)
    refine ⟨_, t5.G (by decide) g74, _, k58, HD, _, _, _, rfl, rfl, SqL.of (del_to ls7.hd).2, hA, _, t5.G (by decide) g75, _, k58, HP, _, _, _, rfl, rfl, SqL.of (del_to ls7.hp).2, hh, _, k510, _, k59, _, k511, (Hc, A, h, L, d, spv, t, l, a', b', qs, as, rs, ps, cs, cheapM spv rs (costOf cs)), rfl, ⟨x7, i5.sd.rows, i5.sd.heap, hd5, ok, cok, kn, ksk, spv0, spv1, T7, hres.same e7', rfl, hsh, hbd⟩, fun v H8' hv => ?_⟩
    obtain ⟨x8, T8, rfl⟩ := hv
    refine ⟨_, rfl, iteF ?_⟩
    have ls8 := ls5.ext x8 T8
    -- the deed
    refine ⟨_, k58, rfl, _, rfl, ?_⟩
    rcases hat with rfl | rfl
    · refine iteT ?_
      refine ⟨_, t5.G (by decide) g72, _, t5.G (by decide) g74, HD, _, 0, _, rfl, rfl, SqL.of (del_to ls8.hd).2, rfl, _, t5.G (by decide) g75, HP, _, 0, _, rfl, rfl, SqL.of (del_to ls8.hp).2, rfl, _, t5.G (by decide) g76, _, k59, (S, p, A0, h0, L0, CN, as0, rs0, ps0, (nub ys).take 12, spv, _), rfl, ⟨ls8.i0, by omega, ls8.cn, ls8.no, ls8.l12, ls8.ne, ls8.sub, spv0, spv1⟩, fun v H9' hv => ?_⟩
      obtain ⟨ch, as', rs', ps', in', sub'⟩ := hv
      exact ⟨t5, as', rs', ps', as1, rs1, ps1, (ls8.deed ch in' sub').mono (by omega)⟩
    · exact iteF ⟨t5, as0, rs0, ps0, as1, rs1, ps1, ls8.mono (by omega)⟩
  clear in0 in1 sd0 sd1 pp0 pp1 rp0 rp1 hr0 hr1 hr07 hr17 hr010 hp0' hp1' pn0 pn1 ls0 ok0 ok1 r012 hrest yok
  rintro σt Ht ⟨hσt, as0, rs0, ps0, as1, rs1, ps1, ls⟩
  have lt : σt.length = 13 := hσt.len.trans l7
  have i2 := ls.i1
  have ok := i2.ok
  have r12 := ok.l12
  have row2 := i2.sd.rows
  have zl := row2.len
  have hls2 := row2.ls
  have hzw2 : as1.map V.ref = (as1.zip rs1).map fun z => V.ref z.1 := by
    conv => lhs; rw [← List.map_fst_zip (Nat.le_of_eq zl)]
    rw [List.map_map]
    rfl
  rw [hzw2] at hls2
  refine ⟨_, hσt.G (by decide) g72, _, hσt.G (by decide) g74, HD, _, 1, _, rfl, rfl, SqL.of (del_to ls.hd).2, rfl, A1, rfl, ⟨_, SqL.of hls2⟩, fun D3 hD3 => ?_⟩
  refine lc_map (J := Itl _ A1) (l := as1.zip rs1) (fun z => V.ref z.1) (fun z => V.str z.2.name) (wl (as1.zip rs1) fun z => V.ref z.1) (fun _ e => sg hls2 e) (by rw [List.length_zip]; omega) hD3 ?_ gN ?_
  · rintro ⟨ra, rr⟩ H' hm hs Qy y
    obtain ⟨sx, lx, w1, _⟩ := (paired_zip row2.ps hm).same hs
    exact ⟨wipe1, _, G.self (by show 12 < (σt.set 12 none).length; rw [List.length_set, lt]; decide), ra, _, 0, _, rfl, rfl, SqL.of w1, rfl, y _ fun _ _ h => h⟩
  intro H3' f3 hD3b
  have hD3' : H3' D3 = some (.lst ((rs1.map Row.name).map V.str)) := by
    rw [hD3b]
    conv => rhs; rw [← List.map_snd_zip (Nat.le_of_eq zl.symm)]
    rw [List.map_map, List.map_map]
    rfl
  have ls3 := ls.same f3
  have i3 := ls3.i1
  have nDp' : D3 ≠ p := fun q => by
    rw [q] at hD3
    exact i2.pu.there hD3
  have hsk : ∀ y ∈ rs1.map Row.name, SOk y := fun y hy => rows_sok ok 0 y (by rw [out_keys]; exact hy)
  refine ⟨(p, D3, rs1.map Row.name, _), rfl, ⟨i3.pu, by omega, nDp', hD3', ok.nd, by rw [List.length_map]; exact r12, hsk⟩, fun v H4' hv => ?_⟩
  obtain ⟨s4', d, cs, ks, rfl, hd0, hd, hcs, hkp⟩ := hv
  have ls4 := ls3.spent s4'
  have i4 := ls4.i1
  have cok := costs_ok hcs hkp
  let τ4 : L2.St := σt.set 10 (some (.ref d))
  have t4 : Sl [7, 8, 9, 10, 11, 12] σ7 τ4 := hσt.set (by decide)
  have k410 : G τ4 10 (.ref d) := G.self (by rw [lt]; decide)
  obtain ⟨hsh, hbd⟩ := cheap_ok ok cok (Int.le_refl 0)
  refine ⟨_, t4.G (by decide) g74, HD, _, 1, _, rfl, rfl, SqL.of (del_to ls4.hd).2, rfl, _, k410, _, t4.G (by decide) g75, HP, _, 1, _, rfl, rfl, SqL.of (del_to ls4.hp).2, rfl, _, k410, (h1, d, L1, ps1, rs1, cs, 0), rfl, ⟨i4.sd.heap, ok, hd, cok, Int.le_refl 0, by decide, ls4.tb⟩, fun v H6' hv => ?_⟩
  obtain ⟨x6, T6, t, l, a', b', qs, rfl, hres⟩ := hv
  have ls6 := ls4.ext x6 T6
  have hd6 := x6 _ _ hd (fun ps z => by cases z)
  refine ⟨(A1, d, 0, t, as1, rs1, cs, l, a', b', qs, cheapM 0 rs1 (costOf cs)), rfl, ⟨ls6.i1.sd.rows, ok, Int.le_refl 0, hd6, cok, hres.tp, hres.r, hsh⟩, fun v H7' hv => ?_⟩
  obtain ⟨e7', rfl⟩ := hv
  exact ⟨_, rfl, iteF ⟨ls6.ex.trans (ext_of e7'), T6.ext e7', hσ7.comp t4 (by decide)⟩⟩
end
end BX
end
section
set_option Elab.async false
set_option linter.all false
set_option maxRecDepth 100000
set_option maxHeartbeats 4000000
namespace BX
open PySem PySem.Spec PyProof.Rows L2 LamX
/-! ### the law's call -/
section
variable {P : Program} {w : World} {K : PySem.W.Frag} {mg mb : Str → Option Value} {c t a : Addr} {s₁ : Shared} {vs : List Value} {ns : List Int}
/-- known ahead: the table, the script where the module does not hold it -/
def firstH (K : PySem.W.Frag) (t a : Addr) (vs : List Value) (ns : List Int) : Hp := fun b =>
  if b = t then some (.tbl #[]) else if b = a ∧ K.lookup a = none then some (.frz { cls := .type "list", data := .seq vs.toArray } (.lst (ns.map V.int))) else none
theorem first_t : firstH K t a vs ns t = some (.tbl #[]) := if_pos rfl
theorem first_n {b : Addr} (h1 : b ≠ t) (h2 : b = a → K.lookup a ≠ none) : firstH K t a vs ns b = none := by
  unfold firstH
  rw [if_neg h1, if_neg (fun z => h2 z.1 z.2)]
theorem first_a (h1 : a ≠ t) (h2 : K.lookup a = none) : firstH K t a vs ns a = some (.frz { cls := .type "list", data := .seq vs.toArray } (.lst (ns.map V.int))) := by
  unfold firstH
  rw [if_neg h1, if_pos ⟨rfl, h2⟩]
theorem first_some {b : Addr} {u : HO} (h : firstH K t a vs ns b = some u) : (b = t ∧ u = .tbl #[]) ∨ (b ≠ t ∧ b = a ∧ K.lookup a = none ∧ u = .frz { cls := .type "list", data := .seq vs.toArray } (.lst (ns.map V.int))) := by
  unfold firstH at h
  by_cases h1 : b = t
  · rw [if_pos h1] at h
    exact .inl ⟨h1, (Option.some.inj h).symm⟩
  · rw [if_neg h1] at h
    by_cases h2 : b = a ∧ K.lookup a = none
    · rw [if_pos h2] at h
      exact .inr ⟨h1, h2.1, h2.2, (Option.some.inj h).symm⟩
    · rw [if_neg h2] at h
      cases h
theorem called {fa : Addr} {fd : FuncData} {x : Str} {sp : Sp} {k : Nat} (KX : K.In s₁.heap) (hns : s₁.heap.Ns mainGlobals mg) (hb : s₁.heap.Ns builtinsNs mb) (hbb : ∀ x : Str, x ≠ "__name__" → mb x = bootBuiltins x) (hlim : s₁.heap.NoLimit) (hg : s₁.gens = #[])
    (hT : s₁.heap.get? t = some { cls := .none, data := .fields #[] }) (nT : K.lookup t = none) (C : PySem.W.codeHdIn K c t = true)
    (hbm : ∃ (bm : Addr) (ob : Obj), mg "__builtins__" = some (.ref bm) ∧ bm ≠ builtinsNs ∧ s₁.heap.get? bm = some ob ∧ ob.cls = .type "module" ∧ ob.dict = some builtinsNs ∧ ob.data = .plain)
    (ha : s₁.heap.get? a = some { cls := .type "list", data := .seq vs.toArray }) (hi : IntsAre vs ns) (hl : ns.length ≤ sizeLine) (hr : Room k callerA)
    (F : ∀ base : Heap, TabB base mg c t → RunG P w K mg base k fa fd [x] sp) (hbind : ∀ (s : Shared) (u : Value), BindsTo s fd ⟨[u], []⟩ [(x, u)])
    (hsp : ∀ H : Hp, H t = some (.tbl #[]) → SqL K H a (ns.map V.int) → sp [.ref a] H (fun v _ => v = .bl true) fun _ _ _ => False) :
    codeAny (model P w) callerA (.call (.ref fa) ⟨[.ref a], []⟩) (fun r s' => r = .ok (.ret (.bool true)) ∧ OldK s₁.heap s'.heap ∧ s'.os = s₁.os ∧ AllBare s'.gens) s₁ := by
  have nat : a ≠ t := fun z => by
    rw [z, hT] at ha
    have z2 : Data.fields #[] = Data.seq vs.toArray _ := congrArg Obj.data (Option.some.inj ha)
    cases z2
  have S : SqL K (firstH K t a vs ns) a (ns.map V.int) := by
    cases hk : K.lookup a with
    | none => exact .inl (.inr ⟨_, first_a nat hk⟩)
    | some o =>
      have e := KX a o hk
      rw [ha] at e
      cases e
      exact .inr ⟨_, vs.toArray, _, hk, rfl, rfl, rfl, by rw [List.size_toArray, hi.length]; exact hl, by simpa using vals_ints hi⟩
  have ok : HOk P w (firstH K t a vs ns) s₁.heap := fun b u z => by
    rcases first_some z with ⟨rfl, rfl⟩ | ⟨_, rfl, _, rfl⟩
    · exact hT
    · exact ⟨ha, by rw [List.length_map]; exact hl, vs, _, vals_ints hi, ha⟩
  have far : ∀ {b : Addr} {o : Obj}, s₁.heap.get? b = some o → (∀ us n, o.data ≠ .seq us n) → o.data ≠ .fields #[] → firstH K t a vs ns b = none := fun {b o} e h1 h2 => first_n (fun z => by
    rw [z, hT] at e
    cases e
    exact h2 rfl) fun z => by
    rw [z, ha] at e
    cases e
    exact absurd rfl (h1 _ _)
  have nsK : ∀ {b : Addr} {m : Str → Option Value}, s₁.heap.Ns b m → (hidT s₁.heap (firstH K t a vs ns)).Ns b m := fun {b m} ⟨o, es, ep, e, d, r⟩ => ⟨o, es, ep, hidT_get e (far e (fun us n z => by
    rw [d] at z
    cases z) fun z => by
    rw [d] at z
    cases z), d, r⟩
  have KB : K.In (hidT s₁.heap (firstH K t a vs ns)) := fun b o e => hidT_get (KX b o e) (first_n (fun z => by
    rw [z, nT] at e
    cases e) fun z q => by
    rw [z, q] at e
    cases e)
  have nG : mainGlobals ≠ t := fun z => by
    obtain ⟨o, es, ep, e, d, _⟩ := hns
    rw [z, hT] at e
    cases e
    cases d
  have M : L2.Mod K mg (hidT s₁.heap (firstH K t a vs ns)) := ⟨KB, nsK hns, ⟨mb, nsK hb, hbb⟩, let ⟨mc, h1, h2⟩ := hlim; ⟨mc, nsK h1, h2⟩⟩
  have bA : (hidT s₁.heap (firstH K t a vs ns)).BuiltinsAt mg t := by
    obtain ⟨bm, ob, b1, b2, b3, b4, b5, b6⟩ := hbm
    refine ⟨bm, ob, b1, b2, fun q => ?_, fun q => ?_, hidT_get b3 (far b3 (fun us n z => ?_) fun z => ?_), b4, b5, b6⟩
    · obtain ⟨o, es, ep, e, d, _⟩ := hns
      rw [q, e] at b3
      cases b3
      rw [d] at b6
      cases b6
    · rw [q, hT] at b3
      cases b3
      cases b6
    · rw [b6] at z
      cases z
    · rw [b6] at z
      cases z
  have e0 : Env0 P w K mg (hidT s₁.heap (firstH K t a vs ns)) callerA [] s₁ (firstH K t a vs ns) := ⟨rfl, M, fun b o e => of_hidT e, Nat.le_of_eq (hidT_size _ _), trivial, fun b hb => absurd (show b ∈ ([] : List Addr) from hb) (by simp), ok, .of_eq hg⟩
  refine codeAny_mono ((F _ ⟨PySem.W.codeHd_of_K KB C, bA, nG⟩).run callerA [] s₁ _ ⟨[.ref a], []⟩ [.ref a] [.ref a] _ _ hr rfl e0 (hbind s₁ (.ref a)) (.cons rfl .nil) (hsp _ first_t S)) fun r s' h => ?_
  cases r with
  | error e => exact False.elim h
  | ok fl =>
    cases fl with
    | next => exact False.elim h
    | brk => exact False.elim h
    | cont => exact False.elim h
    | ret u =>
      obtain ⟨v, H', os, bare, un, ok', r', q⟩ := h
      have q' : v = .bl true := q
      subst q'
      obtain rfl : u = Value.bool true := r'
      obtain ⟨more, hm⟩ := un.tbls t #[] first_t
      have hm' := ok' t _ hm
      have same : ∀ b o, b ≠ t → s₁.heap.get? b = some o → s'.heap.get? b = some o := fun b o nb e => by
        cases z : firstH K t a vs ns b with
        | none => exact un.keep b o e z (by intro y; exact absurd (show b ∈ ([] : List Addr) from y) (by simp)) (by simp)
        | some u =>
          rcases first_some z with ⟨y, _⟩ | ⟨_, rfl, _, rfl⟩
          · exact absurd y nb
          · obtain ⟨e1, _⟩ := ok' b _ (un.frzs b _ _ z)
            rw [ha] at e
            cases e
            exact e1
      refine ⟨rfl, ⟨fun b o e => ?_, fun b o e => ?_⟩, os, bare⟩
      · by_cases hbt : b = t
        · subst hbt
          rw [hT] at e
          cases e
          exact .inr (.inl ⟨((PySem.W.codeHd_of_K KX C).tab hT).isCodeTable, rfl, #[], #[] ++ more, rfl, by rw [Array.empty_append]; exact hm'⟩)
        · exact .inl (same b o hbt e)
      · by_cases hbt : b = t
        · subst hbt
          exact ⟨_, hm'⟩
        · exact ⟨o, same b o hbt e⟩
end
end BX
end
section
set_option Elab.async false
set_option linter.all false
set_option maxRecDepth 100000
set_option maxHeartbeats 4000000
open PySem PySem.W PySem.Calls PyProof.Rows
theorem PySem.Challenge.cw_boxinbox_k32_whole_cheapest_nests_holds : PySem.Challenge.rw_boxinbox_k32_whole_cheapest_nests.Holds := by
  w_on; o_law
  refine HandSHeadRun.head_any (r := OpenLaw.row PySem.Challenge.rw_boxinbox_k32_whole_cheapest_nests) (q := view (OpenLaw.row PySem.Challenge.rw_boxinbox_k32_whole_cheapest_nests).prog [77]) (H := BX.hk) (ob := BX.ob) (M := 20000) (loose := BX.loose) (d := HandSHeadRun.topDef (OpenLaw.row PySem.Challenge.rw_boxinbox_k32_whole_cheapest_nests).prog 77) (kwd := []) BX.ob_eq
    (by kernel_rfl) (fun s => by kernel_rfl) BX.run (by kernel_rfl) (by kernel_rfl) (by kernel_rfl) (by rfl) (by first | assumption | decide +kernel) (by decide +kernel) ⟨rfl, rfl, rfl, rfl, rfl, by decide +kernel⟩ ?hw ?hc
  case hw => w_witness2
  case hc =>
    refine Att.attach_callB (n := 63) (l := PySem.Challenge.rw_boxinbox_k32_whole_cheapest_nests) rfl (by kernel_rfl) fun w s₀ s₁ mg mb fa o pm cd doc a vs ns G Y ho hd hcd hmg0 hobj hints hlen hbits hg => ?_
    obtain ⟨K, KX, c⟩ := Y
    have hmg : mg ("law" : PySem.Str) = some (.ref fa) := by
      have e : (HandSHeadRun.topDef (OpenLaw.row PySem.Challenge.rw_boxinbox_k32_whole_cheapest_nests).prog 77).name = ("law" : PySem.Str) := by kernel_rfl
      rw [← e]
      exact hmg0
    have T : BX.TX K mg := ⟨⟨s₁.heap, KX, G.T.g, c.t.d, c.more⟩⟩
    have hfa := T.g_law
    rw [hmg] at hfa
    cases hfa
    obtain ⟨fd, F⟩ := T.f_law
    have b := L2.FunD.bindsA (ps := ["_law_script"]) F fun _ _ _ _ _ _ us hl => match us, hl with | [_], _ => rfl
    have inT : (("cheapest", none) : He.Defn) ∈ BX.tf := List.mem_singleton_self _
    refine BX.called (c := (BX.cPair K).1) (t := (BX.cPair K).2) (fd := fd) (x := "_law_script") (sp := BX.spLaw (K := K)) (k := 24) KX G.T.g G.T.b G.T.builtins G.T.nolimit hg (c.empty _ inT) (c.out _ inT) (c.hd _ inT) G.T.bmain hobj hints (Nat.le_trans hlen (by decide)) ⟨rfl, by decide, by decide⟩ (fun base TB => BX.r_law T TB F) (fun s u => b s [u] rfl) fun H hH hS => ?_
    refine ⟨(a, ns), rfl, ⟨hS, fun p hp => ?_⟩, fun v H' e => e⟩
    rcases List.mem_singleton.mp hp with rfl
    exact LamX.TabS.nil hH
end
