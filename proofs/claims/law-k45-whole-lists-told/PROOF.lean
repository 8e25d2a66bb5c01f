import PyProof.Rows.All
import Wide.All
import OpenK.AllK
import Wide.FinOn
import HandS.ForMost
import HandS.Codes
import HandS.Defaults
import HandS.HeadHook1
import HandS.HeadHook2
import HandS.HeadHook3
import HandS.HeadHook4
import HandS.IsInst
import HandS.Walk
import HandS.TupAny
import HandS.Conv
import HandS.More
import HandS.TupLen
import HandS.Zip
import HandS.Style
import HandS.SortKw
import HandS.SortInts
import HandS.Strs
import HandS.Deep
import HandS.DictTup
import HandS.RaiseMore
import KE.SortData
import KE.KCallOwn
import PyProof.ReprReads
import KE.GoesNew
import KE.GoesNewDict
import KE.KIndexOf
import KE.KeyNested
import PyProof.ReprRoads
import PyProof.ReprLen
import KE.LtData
import KE.KStrBytes
import KE.KStateDown
import HandS.Head0
import HandS.Head1
import HandS.Head2
import HandS.HeadEnd
import PySem.Challenge.RW_boxinbox_k45_whole_lists_told
set_option Elab.async false
set_option linter.all false
set_option maxRecDepth 100000
set_option maxHeartbeats 4000000
namespace BX
open PySem PySem.Spec PyProof.Rows L2
def top (i : Nat) : Stmt := PySem.Challenge.pw_boxinbox_k45_whole_lists_told.main.body.getD i (.Pass ⟨0, 0, 0, 0⟩)

abbrev s_is_whole : Stmt := top 19
abbrev s_is_name : Stmt := top 20
abbrev s_is_order : Stmt := top 21
abbrev s_Sides_init : Stmt := inClass (top 24) 0
abbrev s_Sides_told : Stmt := inClass (top 24) 1
abbrev s_Sides_ranked : Stmt := inClass (top 24) 2
abbrev s_Sides_str : Stmt := inClass (top 24) 5
abbrev s_are_labels : Stmt := top 29
abbrev s_Parcel_init : Stmt := inClass (top 30) 0
abbrev s_Parcel_name : Stmt := inClass (top 30) 1
abbrev s_Parcel_sides : Stmt := inClass (top 30) 2
abbrev s_Parcel_str : Stmt := inClass (top 30) 11
abbrev s_Heap_init : Stmt := inClass (top 33) 0
abbrev s_Heap_place_of : Stmt := inClass (top 33) 1
abbrev s_Heap_put : Stmt := inClass (top 33) 2
abbrev s_Heap_out : Stmt := inClass (top 33) 3
abbrev s_Heap_parcel : Stmt := inClass (top 33) 4
abbrev s_Heap_names : Stmt := inClass (top 33) 5
abbrev s_Heap_parcels : Stmt := inClass (top 33) 6
abbrev s_beside : Stmt := top 35
abbrev s_turned_three : Stmt := top 36
abbrev s_turned_by : Stmt := top 37
abbrev s_Laid_init : Stmt := inClass (top 40) 0
abbrev s_Laid_holds : Stmt := inClass (top 40) 1
abbrev s_need_names : Stmt := top 41
abbrev s_chosen : Stmt := top 42
abbrev s_choices_of : Stmt := top 43
abbrev s_partings_of : Stmt := top 44
abbrev s_all_ways : Stmt := top 45
abbrev s_is_held : Stmt := top 46
abbrev s_with_two : Stmt := top 47
abbrev s_laid_lists : Stmt := top 48
abbrev s_papers_of : Stmt := top 49
abbrev s_lists_of : Stmt := top 50
abbrev s_law_cell : Stmt := top 52
abbrev s_law_purse : Stmt := top 53
abbrev s_law_take : Stmt := top 54
abbrev s_law_names : Stmt := top 55
abbrev s_law_orders : Stmt := top 56
abbrev s_law_three : Stmt := top 57
abbrev s_law_heap : Stmt := top 58
abbrev s_law_laying : Stmt := top 59
abbrev s_law_picked : Stmt := top 60
abbrev s_law_book : Stmt := top 61
abbrev s_law_span : Stmt := top 62
abbrev s_law_named : Stmt := top 63
abbrev s_law_is_whole : Stmt := top 64
abbrev s_law_is_order : Stmt := top 65
abbrev s_law_choices : Stmt := top 66
abbrev s_law_all_choices : Stmt := top 67
abbrev s_law_held : Stmt := top 68
abbrev s_law_pairs_held : Stmt := top 69
abbrev s_law_list_right : Stmt := top 70
abbrev s_law_shown : Stmt := top 71
abbrev s_law_ranked : Stmt := top 72
abbrev s_law_stood : Stmt := top 73
abbrev s_law_right : Stmt := top 74
abbrev s_law_again : Stmt := top 75
abbrev s_law_replaced : Stmt := top 76
abbrev s_law_four_right : Stmt := top 77
abbrev s_law : Stmt := top 78
/-! defs -/
def d_is_whole : He.DefD := ⟨("is_whole", none), "is_whole", "is_whole", defArgs s_is_whole, defBody s_is_whole, defScope s_is_whole, [], []⟩
def d_is_name : He.DefD := ⟨("is_name", none), "is_name", "is_name", defArgs s_is_name, defBody s_is_name, defScope s_is_name, [], []⟩
def d_is_order : He.DefD := ⟨("is_order", none), "is_order", "is_order", defArgs s_is_order, defBody s_is_order, defScope s_is_order, [], []⟩
def d_Sides_init : He.DefD := ⟨("Sides", some "__init__"), "__init__", "Sides.__init__", defArgs s_Sides_init, defBody s_Sides_init, defScope s_Sides_init, [], []⟩
def d_Sides_told : He.DefD := ⟨("Sides", some "told"), "told", "Sides.told", defArgs s_Sides_told, defBody s_Sides_told, defScope s_Sides_told, [], []⟩
def d_Sides_ranked : He.DefD := ⟨("Sides", some "ranked"), "ranked", "Sides.ranked", defArgs s_Sides_ranked, defBody s_Sides_ranked, defScope s_Sides_ranked, [], []⟩
def d_Sides_str : He.DefD := ⟨("Sides", some "__str__"), "__str__", "Sides.__str__", defArgs s_Sides_str, defBody s_Sides_str, defScope s_Sides_str, [], []⟩
def d_are_labels : He.DefD := ⟨("are_labels", none), "are_labels", "are_labels", defArgs s_are_labels, defBody s_are_labels, defScope s_are_labels, [], []⟩
def d_Parcel_init : He.DefD := ⟨("Parcel", some "__init__"), "__init__", "Parcel.__init__", defArgs s_Parcel_init, defBody s_Parcel_init, defScope s_Parcel_init, [.int 1, .int 0, .int 0, .non], []⟩
def d_Parcel_name : He.DefD := ⟨("Parcel", some "name"), "name", "Parcel.name", defArgs s_Parcel_name, defBody s_Parcel_name, defScope s_Parcel_name, [], []⟩
def d_Parcel_sides : He.DefD := ⟨("Parcel", some "sides"), "sides", "Parcel.sides", defArgs s_Parcel_sides, defBody s_Parcel_sides, defScope s_Parcel_sides, [], []⟩
def d_Parcel_str : He.DefD := ⟨("Parcel", some "__str__"), "__str__", "Parcel.__str__", defArgs s_Parcel_str, defBody s_Parcel_str, defScope s_Parcel_str, [], []⟩
def d_Heap_init : He.DefD := ⟨("Heap", some "__init__"), "__init__", "Heap.__init__", defArgs s_Heap_init, defBody s_Heap_init, defScope s_Heap_init, [], []⟩
def d_Heap_place_of : He.DefD := ⟨("Heap", some "place_of"), "place_of", "Heap.place_of", defArgs s_Heap_place_of, defBody s_Heap_place_of, defScope s_Heap_place_of, [], []⟩
def d_Heap_put : He.DefD := ⟨("Heap", some "put"), "put", "Heap.put", defArgs s_Heap_put, defBody s_Heap_put, defScope s_Heap_put, [.non], []⟩
def d_Heap_out : He.DefD := ⟨("Heap", some "out"), "out", "Heap.out", defArgs s_Heap_out, defBody s_Heap_out, defScope s_Heap_out, [], []⟩
def d_Heap_parcel : He.DefD := ⟨("Heap", some "parcel"), "parcel", "Heap.parcel", defArgs s_Heap_parcel, defBody s_Heap_parcel, defScope s_Heap_parcel, [], []⟩
def d_Heap_names : He.DefD := ⟨("Heap", some "names"), "names", "Heap.names", defArgs s_Heap_names, defBody s_Heap_names, defScope s_Heap_names, [], []⟩
def d_Heap_parcels : He.DefD := ⟨("Heap", some "parcels"), "parcels", "Heap.parcels", defArgs s_Heap_parcels, defBody s_Heap_parcels, defScope s_Heap_parcels, [], []⟩
def d_beside : He.DefD := ⟨("beside", none), "beside", "beside", defArgs s_beside, defBody s_beside, defScope s_beside, [], []⟩
def d_turned_three : He.DefD := ⟨("turned_three", none), "turned_three", "turned_three", defArgs s_turned_three, defBody s_turned_three, defScope s_turned_three, [], []⟩
def d_turned_by : He.DefD := ⟨("turned_by", none), "turned_by", "turned_by", defArgs s_turned_by, defBody s_turned_by, defScope s_turned_by, [], []⟩
def d_Laid_init : He.DefD := ⟨("Laid", some "__init__"), "__init__", "Laid.__init__", defArgs s_Laid_init, defBody s_Laid_init, defScope s_Laid_init, [], []⟩
def d_Laid_holds : He.DefD := ⟨("Laid", some "holds"), "holds", "Laid.holds", defArgs s_Laid_holds, defBody s_Laid_holds, defScope s_Laid_holds, [], []⟩
def d_need_names : He.DefD := ⟨("need_names", none), "need_names", "need_names", defArgs s_need_names, defBody s_need_names, defScope s_need_names, [], []⟩
def d_chosen : He.DefD := ⟨("chosen", none), "chosen", "chosen", defArgs s_chosen, defBody s_chosen, defScope s_chosen, [], []⟩
def d_choices_of : He.DefD := ⟨("choices_of", none), "choices_of", "choices_of", defArgs s_choices_of, defBody s_choices_of, defScope s_choices_of, [], []⟩
def d_partings_of : He.DefD := ⟨("partings_of", none), "partings_of", "partings_of", defArgs s_partings_of, defBody s_partings_of, defScope s_partings_of, [], []⟩
def d_all_ways : He.DefD := ⟨("all_ways", none), "all_ways", "all_ways", defArgs s_all_ways, defBody s_all_ways, defScope s_all_ways, [], []⟩
def d_is_held : He.DefD := ⟨("is_held", none), "is_held", "is_held", defArgs s_is_held, defBody s_is_held, defScope s_is_held, [], []⟩
def d_with_two : He.DefD := ⟨("with_two", none), "with_two", "with_two", defArgs s_with_two, defBody s_with_two, defScope s_with_two, [], []⟩
def d_laid_lists : He.DefD := ⟨("laid_lists", none), "laid_lists", "laid_lists", defArgs s_laid_lists, defBody s_laid_lists, defScope s_laid_lists, [], []⟩
def d_papers_of : He.DefD := ⟨("papers_of", none), "papers_of", "papers_of", defArgs s_papers_of, defBody s_papers_of, defScope s_papers_of, [], []⟩
def d_lists_of : He.DefD := ⟨("lists_of", none), "lists_of", "lists_of", defArgs s_lists_of, defBody s_lists_of, defScope s_lists_of, [], []⟩
def d_law_cell : He.DefD := ⟨("_law_cell", none), "_law_cell", "_law_cell", defArgs s_law_cell, defBody s_law_cell, defScope s_law_cell, [], []⟩
def d_law_purse : He.DefD := ⟨("_law_purse", none), "_law_purse", "_law_purse", defArgs s_law_purse, defBody s_law_purse, defScope s_law_purse, [], []⟩
def d_law_take : He.DefD := ⟨("_law_take", none), "_law_take", "_law_take", defArgs s_law_take, defBody s_law_take, defScope s_law_take, [], []⟩
def d_law_names : He.DefD := ⟨("_law_names", none), "_law_names", "_law_names", defArgs s_law_names, defBody s_law_names, defScope s_law_names, [], []⟩
def d_law_orders : He.DefD := ⟨("_law_orders", none), "_law_orders", "_law_orders", defArgs s_law_orders, defBody s_law_orders, defScope s_law_orders, [], []⟩
def d_law_three : He.DefD := ⟨("_law_three", none), "_law_three", "_law_three", defArgs s_law_three, defBody s_law_three, defScope s_law_three, [], []⟩
def d_law_heap : He.DefD := ⟨("_law_heap", none), "_law_heap", "_law_heap", defArgs s_law_heap, defBody s_law_heap, defScope s_law_heap, [], []⟩
def d_law_laying : He.DefD := ⟨("_law_laying", none), "_law_laying", "_law_laying", defArgs s_law_laying, defBody s_law_laying, defScope s_law_laying, [], []⟩
def d_law_picked : He.DefD := ⟨("_law_picked", none), "_law_picked", "_law_picked", defArgs s_law_picked, defBody s_law_picked, defScope s_law_picked, [], []⟩
def d_law_book : He.DefD := ⟨("_law_book", none), "_law_book", "_law_book", defArgs s_law_book, defBody s_law_book, defScope s_law_book, [], []⟩
def d_law_span : He.DefD := ⟨("_law_span", none), "_law_span", "_law_span", defArgs s_law_span, defBody s_law_span, defScope s_law_span, [], []⟩
def d_law_named : He.DefD := ⟨("_law_named", none), "_law_named", "_law_named", defArgs s_law_named, defBody s_law_named, defScope s_law_named, [], []⟩
def d_law_is_whole : He.DefD := ⟨("_law_is_whole", none), "_law_is_whole", "_law_is_whole", defArgs s_law_is_whole, defBody s_law_is_whole, defScope s_law_is_whole, [], []⟩
def d_law_is_order : He.DefD := ⟨("_law_is_order", none), "_law_is_order", "_law_is_order", defArgs s_law_is_order, defBody s_law_is_order, defScope s_law_is_order, [], []⟩
def d_law_choices : He.DefD := ⟨("_law_choices", none), "_law_choices", "_law_choices", defArgs s_law_choices, defBody s_law_choices, defScope s_law_choices, [], []⟩
def d_law_all_choices : He.DefD := ⟨("_law_all_choices", none), "_law_all_choices", "_law_all_choices", defArgs s_law_all_choices, defBody s_law_all_choices, defScope s_law_all_choices, [], []⟩
def d_law_held : He.DefD := ⟨("_law_held", none), "_law_held", "_law_held", defArgs s_law_held, defBody s_law_held, defScope s_law_held, [], []⟩
def d_law_pairs_held : He.DefD := ⟨("_law_pairs_held", none), "_law_pairs_held", "_law_pairs_held", defArgs s_law_pairs_held, defBody s_law_pairs_held, defScope s_law_pairs_held, [], []⟩
def d_law_list_right : He.DefD := ⟨("_law_list_right", none), "_law_list_right", "_law_list_right", defArgs s_law_list_right, defBody s_law_list_right, defScope s_law_list_right, [], []⟩
def d_law_shown : He.DefD := ⟨("_law_shown", none), "_law_shown", "_law_shown", defArgs s_law_shown, defBody s_law_shown, defScope s_law_shown, [], []⟩
def d_law_ranked : He.DefD := ⟨("_law_ranked", none), "_law_ranked", "_law_ranked", defArgs s_law_ranked, defBody s_law_ranked, defScope s_law_ranked, [], []⟩
def d_law_stood : He.DefD := ⟨("_law_stood", none), "_law_stood", "_law_stood", defArgs s_law_stood, defBody s_law_stood, defScope s_law_stood, [], []⟩
def d_law_right : He.DefD := ⟨("_law_right", none), "_law_right", "_law_right", defArgs s_law_right, defBody s_law_right, defScope s_law_right, [], []⟩
def d_law_again : He.DefD := ⟨("_law_again", none), "_law_again", "_law_again", defArgs s_law_again, defBody s_law_again, defScope s_law_again, [], []⟩
def d_law_replaced : He.DefD := ⟨("_law_replaced", none), "_law_replaced", "_law_replaced", defArgs s_law_replaced, defBody s_law_replaced, defScope s_law_replaced, [], []⟩
def d_law_four_right : He.DefD := ⟨("_law_four_right", none), "_law_four_right", "_law_four_right", defArgs s_law_four_right, defBody s_law_four_right, defScope s_law_four_right, [], []⟩
def d_law : He.DefD := ⟨("law", none), "law", "law", defArgs s_law, defBody s_law, defScope s_law, [], []⟩
def fn : List He.DefD := [d_is_whole, d_is_name, d_is_order, d_Sides_init, d_Sides_told, d_Sides_ranked, d_Sides_str, d_are_labels, d_Parcel_init, d_Parcel_name, d_Parcel_sides, d_Parcel_str, d_Heap_init, d_Heap_place_of, d_Heap_put, d_Heap_out, d_Heap_parcel, d_Heap_names, d_Heap_parcels, d_beside, d_turned_three, d_turned_by, d_Laid_init, d_Laid_holds, d_need_names, d_chosen, d_choices_of, d_partings_of, d_all_ways, d_is_held, d_with_two, d_laid_lists, d_papers_of, d_lists_of, d_law_cell, d_law_purse, d_law_take, d_law_names, d_law_orders, d_law_three, d_law_heap, d_law_laying, d_law_picked, d_law_book, d_law_span, d_law_named, d_law_is_whole, d_law_is_order, d_law_choices, d_law_all_choices, d_law_held, d_law_pairs_held, d_law_list_right, d_law_shown, d_law_ranked, d_law_stood, d_law_right, d_law_again, d_law_replaced, d_law_four_right, d_law]
def fa : List He.Fa := [.glo "is_whole", .glo "is_name", .glo "is_order", .glo "are_labels", .glo "beside", .glo "turned_three", .glo "turned_by", .glo "need_names", .glo "chosen", .glo "choices_of", .glo "partings_of", .glo "all_ways", .glo "is_held", .glo "with_two", .glo "laid_lists", .glo "papers_of", .glo "lists_of", .glo "_law_cell", .glo "_law_purse", .glo "_law_take", .glo "_law_names", .glo "_law_orders", .glo "_law_three", .glo "_law_heap", .glo "_law_laying", .glo "_law_picked", .glo "_law_book", .glo "_law_span", .glo "_law_named", .glo "_law_is_whole", .glo "_law_is_order", .glo "_law_choices", .glo "_law_all_choices", .glo "_law_held", .glo "_law_pairs_held", .glo "_law_list_right", .glo "_law_shown", .glo "_law_ranked", .glo "_law_stood", .glo "_law_right", .glo "_law_again", .glo "_law_replaced", .glo "_law_four_right", .glo "law", .glo "Sides", .glo "Parcel", .glo "Heap", .glo "Laid", .free "isinstance", .free "int", .free "bool", .free "str", .free "len", .free "all", .free "list", .free "tuple", .free "dict", .free "sorted", .free "max", .free "min", .free "zip", .free "range", .free "set", .free "sum", .free "enumerate", .free "repr", .int "MOST_SIDE" 100000, .int "MOST_WALL" 1000, .int "MOST_WEIGHT" 100000, .int "MOST_PARCELS" 12, .int "MOST_NAMES" 4, .str "LETTERS" "abcdefghijklmnopqrstuvwxyz", .glo "ORDERS", .glo "LABELS", .cls "Sides", .mkr "Sides", .noat "Sides" "three", .cls "Parcel", .mkr "Parcel", .noat "Parcel" "called", .noat "Parcel" "outside", .noat "Parcel" "thick", .noat "Parcel" "heavy", .noat "Parcel" "strong", .noat "Parcel" "marks", .cls "Heap", .mkr "Heap", .noat "Heap" "held", .cls "Laid", .mkr "Laid", .noat "Laid" "paper", .noat "Laid" "three", .noat "Laid" "falling", .meth "Sides" "told", .meth "Sides" "ranked", .meth "Sides" "__str__", .meth "Parcel" "name", .meth "Parcel" "sides", .meth "Parcel" "__str__", .meth "Heap" "place_of", .meth "Heap" "put", .meth "Heap" "out", .meth "Heap" "parcel", .meth "Heap" "names", .meth "Heap" "parcels", .meth "Laid" "holds"]
/-- what is looked at besides: ORDERS, LABELS -/
def tupAt (K : PySem.W.Frag) (a : Addr) : List Value := match K.lookup a with
  | some ⟨.type c, _, .seq its _, _⟩ => if c = "tuple" then its.toList else []
  | _ => []
def isTupI (K : PySem.W.Frag) (v : Value) (ns : List Int) : Bool := match v with
  | .ref a => (match K.lookup a with
    | some ⟨.type c, none, .seq its _, _⟩ => decide (c = "tuple") && (decide (its.size ≤ sizeLine) && He.relAll (ns.map V.int) its.toList)
    | _ => false)
  | _ => false
def ordersOk (K : PySem.W.Frag) : Bool := match K.lookup (He.ga K "ORDERS") with
  | some ⟨.type c, _, .seq its _, _⟩ => decide (c = "tuple") && (match its.toList with
    | [a, b, c, d, e, f] => isTupI K a [0, 1, 2] && (isTupI K b [0, 2, 1] && (isTupI K c [1, 0, 2] && (isTupI K d [1, 2, 0] && (isTupI K e [2, 0, 1] && isTupI K f [2, 1, 0]))))
    | _ => false)
  | _ => false
def insB (K : PySem.W.Frag) (C : Addr) : Bool := He.eqO (PySem.W.findIn K (.ref C) "__class__") (some (some (.builtin "object.__class__"))) && (He.eqO (PySem.W.specialIn K (.builtin "object.__class__") "__get__") (some (some (.builtin "getset_descriptor.__get__"))) && (decide (PySem.W.takesIn K (.builtin "object.__class__") = some true) && (decide (PySem.W.mroIn K C (.type "object") = some true) && decide (PySem.W.kitOne K (.ref C) (.ref C) = some true))))
def sysB (K : PySem.W.Frag) : Bool := match K.lookup sysModules with
  | some ⟨_, _, .dict _ _, _⟩ => true
  | _ => false
theorem sysB_ok {K : PySem.W.Frag} (h : sysB K = true) : ∃ c d es n sl, K.lookup sysModules = some ⟨c, d, .dict es n, sl⟩ := by
  unfold sysB at h
  split at h
  · exact ⟨_, _, _, _, _, by assumption⟩
  · cases h
def ex (K : PySem.W.Frag) : Bool := sysB K && (ordersOk K && (He.tupB K "LABELS" [.str "alone", .str "top", .str "upright"] && (insB K (He.ga K "Sides") && insB K (He.ga K "Parcel"))))
/-- all that is known of what the top has written -/
structure Tp (K : PySem.W.Frag) (mg : Str → Option Value) : Prop where
  at_ : ∃ h : Heap, K.In h ∧ h.Ns mainGlobals mg
  says : He.SaysD fa fn K
  more : ex K = true
section
variable {K : PySem.W.Frag} {mg : Str → Option Value} (T : Tp K mg)
include T
theorem Tp.g_is_whole : mg "is_whole" = some (.ref (He.ga K "is_whole")) := let ⟨_, X, G⟩ := T.at_; He.glo_ok X G (T.says.fact 0 (f := .glo "is_whole") rfl)
theorem Tp.g_is_name : mg "is_name" = some (.ref (He.ga K "is_name")) := let ⟨_, X, G⟩ := T.at_; He.glo_ok X G (T.says.fact 1 (f := .glo "is_name") rfl)
theorem Tp.g_is_order : mg "is_order" = some (.ref (He.ga K "is_order")) := let ⟨_, X, G⟩ := T.at_; He.glo_ok X G (T.says.fact 2 (f := .glo "is_order") rfl)
theorem Tp.g_are_labels : mg "are_labels" = some (.ref (He.ga K "are_labels")) := let ⟨_, X, G⟩ := T.at_; He.glo_ok X G (T.says.fact 3 (f := .glo "are_labels") rfl)
theorem Tp.g_beside : mg "beside" = some (.ref (He.ga K "beside")) := let ⟨_, X, G⟩ := T.at_; He.glo_ok X G (T.says.fact 4 (f := .glo "beside") rfl)
theorem Tp.g_turned_three : mg "turned_three" = some (.ref (He.ga K "turned_three")) := let ⟨_, X, G⟩ := T.at_; He.glo_ok X G (T.says.fact 5 (f := .glo "turned_three") rfl)
theorem Tp.g_turned_by : mg "turned_by" = some (.ref (He.ga K "turned_by")) := let ⟨_, X, G⟩ := T.at_; He.glo_ok X G (T.says.fact 6 (f := .glo "turned_by") rfl)
theorem Tp.g_need_names : mg "need_names" = some (.ref (He.ga K "need_names")) := let ⟨_, X, G⟩ := T.at_; He.glo_ok X G (T.says.fact 7 (f := .glo "need_names") rfl)
theorem Tp.g_chosen : mg "chosen" = some (.ref (He.ga K "chosen")) := let ⟨_, X, G⟩ := T.at_; He.glo_ok X G (T.says.fact 8 (f := .glo "chosen") rfl)
theorem Tp.g_choices_of : mg "choices_of" = some (.ref (He.ga K "choices_of")) := let ⟨_, X, G⟩ := T.at_; He.glo_ok X G (T.says.fact 9 (f := .glo "choices_of") rfl)
theorem Tp.g_partings_of : mg "partings_of" = some (.ref (He.ga K "partings_of")) := let ⟨_, X, G⟩ := T.at_; He.glo_ok X G (T.says.fact 10 (f := .glo "partings_of") rfl)
theorem Tp.g_all_ways : mg "all_ways" = some (.ref (He.ga K "all_ways")) := let ⟨_, X, G⟩ := T.at_; He.glo_ok X G (T.says.fact 11 (f := .glo "all_ways") rfl)
theorem Tp.g_is_held : mg "is_held" = some (.ref (He.ga K "is_held")) := let ⟨_, X, G⟩ := T.at_; He.glo_ok X G (T.says.fact 12 (f := .glo "is_held") rfl)
theorem Tp.g_with_two : mg "with_two" = some (.ref (He.ga K "with_two")) := let ⟨_, X, G⟩ := T.at_; He.glo_ok X G (T.says.fact 13 (f := .glo "with_two") rfl)
theorem Tp.g_laid_lists : mg "laid_lists" = some (.ref (He.ga K "laid_lists")) := let ⟨_, X, G⟩ := T.at_; He.glo_ok X G (T.says.fact 14 (f := .glo "laid_lists") rfl)
theorem Tp.g_papers_of : mg "papers_of" = some (.ref (He.ga K "papers_of")) := let ⟨_, X, G⟩ := T.at_; He.glo_ok X G (T.says.fact 15 (f := .glo "papers_of") rfl)
theorem Tp.g_lists_of : mg "lists_of" = some (.ref (He.ga K "lists_of")) := let ⟨_, X, G⟩ := T.at_; He.glo_ok X G (T.says.fact 16 (f := .glo "lists_of") rfl)
theorem Tp.g_law_cell : mg "_law_cell" = some (.ref (He.ga K "_law_cell")) := let ⟨_, X, G⟩ := T.at_; He.glo_ok X G (T.says.fact 17 (f := .glo "_law_cell") rfl)
theorem Tp.g_law_purse : mg "_law_purse" = some (.ref (He.ga K "_law_purse")) := let ⟨_, X, G⟩ := T.at_; He.glo_ok X G (T.says.fact 18 (f := .glo "_law_purse") rfl)
theorem Tp.g_law_take : mg "_law_take" = some (.ref (He.ga K "_law_take")) := let ⟨_, X, G⟩ := T.at_; He.glo_ok X G (T.says.fact 19 (f := .glo "_law_take") rfl)
theorem Tp.g_law_names : mg "_law_names" = some (.ref (He.ga K "_law_names")) := let ⟨_, X, G⟩ := T.at_; He.glo_ok X G (T.says.fact 20 (f := .glo "_law_names") rfl)
theorem Tp.g_law_orders : mg "_law_orders" = some (.ref (He.ga K "_law_orders")) := let ⟨_, X, G⟩ := T.at_; He.glo_ok X G (T.says.fact 21 (f := .glo "_law_orders") rfl)
theorem Tp.g_law_three : mg "_law_three" = some (.ref (He.ga K "_law_three")) := let ⟨_, X, G⟩ := T.at_; He.glo_ok X G (T.says.fact 22 (f := .glo "_law_three") rfl)
theorem Tp.g_law_heap : mg "_law_heap" = some (.ref (He.ga K "_law_heap")) := let ⟨_, X, G⟩ := T.at_; He.glo_ok X G (T.says.fact 23 (f := .glo "_law_heap") rfl)
theorem Tp.g_law_laying : mg "_law_laying" = some (.ref (He.ga K "_law_laying")) := let ⟨_, X, G⟩ := T.at_; He.glo_ok X G (T.says.fact 24 (f := .glo "_law_laying") rfl)
theorem Tp.g_law_picked : mg "_law_picked" = some (.ref (He.ga K "_law_picked")) := let ⟨_, X, G⟩ := T.at_; He.glo_ok X G (T.says.fact 25 (f := .glo "_law_picked") rfl)
theorem Tp.g_law_book : mg "_law_book" = some (.ref (He.ga K "_law_book")) := let ⟨_, X, G⟩ := T.at_; He.glo_ok X G (T.says.fact 26 (f := .glo "_law_book") rfl)
theorem Tp.g_law_span : mg "_law_span" = some (.ref (He.ga K "_law_span")) := let ⟨_, X, G⟩ := T.at_; He.glo_ok X G (T.says.fact 27 (f := .glo "_law_span") rfl)
theorem Tp.g_law_named : mg "_law_named" = some (.ref (He.ga K "_law_named")) := let ⟨_, X, G⟩ := T.at_; He.glo_ok X G (T.says.fact 28 (f := .glo "_law_named") rfl)
theorem Tp.g_law_is_whole : mg "_law_is_whole" = some (.ref (He.ga K "_law_is_whole")) := let ⟨_, X, G⟩ := T.at_; He.glo_ok X G (T.says.fact 29 (f := .glo "_law_is_whole") rfl)
theorem Tp.g_law_is_order : mg "_law_is_order" = some (.ref (He.ga K "_law_is_order")) := let ⟨_, X, G⟩ := T.at_; He.glo_ok X G (T.says.fact 30 (f := .glo "_law_is_order") rfl)
theorem Tp.g_law_choices : mg "_law_choices" = some (.ref (He.ga K "_law_choices")) := let ⟨_, X, G⟩ := T.at_; He.glo_ok X G (T.says.fact 31 (f := .glo "_law_choices") rfl)
theorem Tp.g_law_all_choices : mg "_law_all_choices" = some (.ref (He.ga K "_law_all_choices")) := let ⟨_, X, G⟩ := T.at_; He.glo_ok X G (T.says.fact 32 (f := .glo "_law_all_choices") rfl)
theorem Tp.g_law_held : mg "_law_held" = some (.ref (He.ga K "_law_held")) := let ⟨_, X, G⟩ := T.at_; He.glo_ok X G (T.says.fact 33 (f := .glo "_law_held") rfl)
theorem Tp.g_law_pairs_held : mg "_law_pairs_held" = some (.ref (He.ga K "_law_pairs_held")) := let ⟨_, X, G⟩ := T.at_; He.glo_ok X G (T.says.fact 34 (f := .glo "_law_pairs_held") rfl)
theorem Tp.g_law_list_right : mg "_law_list_right" = some (.ref (He.ga K "_law_list_right")) := let ⟨_, X, G⟩ := T.at_; He.glo_ok X G (T.says.fact 35 (f := .glo "_law_list_right") rfl)
theorem Tp.g_law_shown : mg "_law_shown" = some (.ref (He.ga K "_law_shown")) := let ⟨_, X, G⟩ := T.at_; He.glo_ok X G (T.says.fact 36 (f := .glo "_law_shown") rfl)
theorem Tp.g_law_ranked : mg "_law_ranked" = some (.ref (He.ga K "_law_ranked")) := let ⟨_, X, G⟩ := T.at_; He.glo_ok X G (T.says.fact 37 (f := .glo "_law_ranked") rfl)
theorem Tp.g_law_stood : mg "_law_stood" = some (.ref (He.ga K "_law_stood")) := let ⟨_, X, G⟩ := T.at_; He.glo_ok X G (T.says.fact 38 (f := .glo "_law_stood") rfl)
theorem Tp.g_law_right : mg "_law_right" = some (.ref (He.ga K "_law_right")) := let ⟨_, X, G⟩ := T.at_; He.glo_ok X G (T.says.fact 39 (f := .glo "_law_right") rfl)
theorem Tp.g_law_again : mg "_law_again" = some (.ref (He.ga K "_law_again")) := let ⟨_, X, G⟩ := T.at_; He.glo_ok X G (T.says.fact 40 (f := .glo "_law_again") rfl)
theorem Tp.g_law_replaced : mg "_law_replaced" = some (.ref (He.ga K "_law_replaced")) := let ⟨_, X, G⟩ := T.at_; He.glo_ok X G (T.says.fact 41 (f := .glo "_law_replaced") rfl)
theorem Tp.g_law_four_right : mg "_law_four_right" = some (.ref (He.ga K "_law_four_right")) := let ⟨_, X, G⟩ := T.at_; He.glo_ok X G (T.says.fact 42 (f := .glo "_law_four_right") rfl)
theorem Tp.g_law : mg "law" = some (.ref (He.ga K "law")) := let ⟨_, X, G⟩ := T.at_; He.glo_ok X G (T.says.fact 43 (f := .glo "law") rfl)
theorem Tp.g_Sides : mg "Sides" = some (.ref (He.ga K "Sides")) := let ⟨_, X, G⟩ := T.at_; He.glo_ok X G (T.says.fact 44 (f := .glo "Sides") rfl)
theorem Tp.g_Parcel : mg "Parcel" = some (.ref (He.ga K "Parcel")) := let ⟨_, X, G⟩ := T.at_; He.glo_ok X G (T.says.fact 45 (f := .glo "Parcel") rfl)
theorem Tp.g_Heap : mg "Heap" = some (.ref (He.ga K "Heap")) := let ⟨_, X, G⟩ := T.at_; He.glo_ok X G (T.says.fact 46 (f := .glo "Heap") rfl)
theorem Tp.g_Laid : mg "Laid" = some (.ref (He.ga K "Laid")) := let ⟨_, X, G⟩ := T.at_; He.glo_ok X G (T.says.fact 47 (f := .glo "Laid") rfl)
theorem Tp.z_isinstance : mg "isinstance" = none := let ⟨_, X, G⟩ := T.at_; He.free_ok X G (T.says.fact 48 (f := .free "isinstance") rfl)
theorem Tp.z_int : mg "int" = none := let ⟨_, X, G⟩ := T.at_; He.free_ok X G (T.says.fact 49 (f := .free "int") rfl)
theorem Tp.z_bool : mg "bool" = none := let ⟨_, X, G⟩ := T.at_; He.free_ok X G (T.says.fact 50 (f := .free "bool") rfl)
theorem Tp.z_str : mg "str" = none := let ⟨_, X, G⟩ := T.at_; He.free_ok X G (T.says.fact 51 (f := .free "str") rfl)
theorem Tp.z_len : mg "len" = none := let ⟨_, X, G⟩ := T.at_; He.free_ok X G (T.says.fact 52 (f := .free "len") rfl)
theorem Tp.z_all : mg "all" = none := let ⟨_, X, G⟩ := T.at_; He.free_ok X G (T.says.fact 53 (f := .free "all") rfl)
theorem Tp.z_list : mg "list" = none := let ⟨_, X, G⟩ := T.at_; He.free_ok X G (T.says.fact 54 (f := .free "list") rfl)
theorem Tp.z_tuple : mg "tuple" = none := let ⟨_, X, G⟩ := T.at_; He.free_ok X G (T.says.fact 55 (f := .free "tuple") rfl)
theorem Tp.z_dict : mg "dict" = none := let ⟨_, X, G⟩ := T.at_; He.free_ok X G (T.says.fact 56 (f := .free "dict") rfl)
theorem Tp.z_sorted : mg "sorted" = none := let ⟨_, X, G⟩ := T.at_; He.free_ok X G (T.says.fact 57 (f := .free "sorted") rfl)
theorem Tp.z_max : mg "max" = none := let ⟨_, X, G⟩ := T.at_; He.free_ok X G (T.says.fact 58 (f := .free "max") rfl)
theorem Tp.z_min : mg "min" = none := let ⟨_, X, G⟩ := T.at_; He.free_ok X G (T.says.fact 59 (f := .free "min") rfl)
theorem Tp.z_zip : mg "zip" = none := let ⟨_, X, G⟩ := T.at_; He.free_ok X G (T.says.fact 60 (f := .free "zip") rfl)
theorem Tp.z_range : mg "range" = none := let ⟨_, X, G⟩ := T.at_; He.free_ok X G (T.says.fact 61 (f := .free "range") rfl)
theorem Tp.z_set : mg "set" = none := let ⟨_, X, G⟩ := T.at_; He.free_ok X G (T.says.fact 62 (f := .free "set") rfl)
theorem Tp.z_sum : mg "sum" = none := let ⟨_, X, G⟩ := T.at_; He.free_ok X G (T.says.fact 63 (f := .free "sum") rfl)
theorem Tp.z_enumerate : mg "enumerate" = none := let ⟨_, X, G⟩ := T.at_; He.free_ok X G (T.says.fact 64 (f := .free "enumerate") rfl)
theorem Tp.z_repr : mg "repr" = none := let ⟨_, X, G⟩ := T.at_; He.free_ok X G (T.says.fact 65 (f := .free "repr") rfl)
theorem Tp.i_MOST_SIDE : ∃ t, mg "MOST_SIDE" = some (.int 100000 t) := let ⟨_, X, G⟩ := T.at_; He.int_ok X G (T.says.fact 66 (f := .int "MOST_SIDE" 100000) rfl)
theorem Tp.i_MOST_WALL : ∃ t, mg "MOST_WALL" = some (.int 1000 t) := let ⟨_, X, G⟩ := T.at_; He.int_ok X G (T.says.fact 67 (f := .int "MOST_WALL" 1000) rfl)
theorem Tp.i_MOST_WEIGHT : ∃ t, mg "MOST_WEIGHT" = some (.int 100000 t) := let ⟨_, X, G⟩ := T.at_; He.int_ok X G (T.says.fact 68 (f := .int "MOST_WEIGHT" 100000) rfl)
theorem Tp.i_MOST_PARCELS : ∃ t, mg "MOST_PARCELS" = some (.int 12 t) := let ⟨_, X, G⟩ := T.at_; He.int_ok X G (T.says.fact 69 (f := .int "MOST_PARCELS" 12) rfl)
theorem Tp.i_MOST_NAMES : ∃ t, mg "MOST_NAMES" = some (.int 4 t) := let ⟨_, X, G⟩ := T.at_; He.int_ok X G (T.says.fact 70 (f := .int "MOST_NAMES" 4) rfl)
theorem Tp.i_LETTERS : ∃ t, mg "LETTERS" = some (.str "abcdefghijklmnopqrstuvwxyz" t) := let ⟨_, X, G⟩ := T.at_; He.str_ok X G (T.says.fact 71 (f := .str "LETTERS" "abcdefghijklmnopqrstuvwxyz") rfl)
theorem Tp.g_ORDERS : mg "ORDERS" = some (.ref (He.ga K "ORDERS")) := let ⟨_, X, G⟩ := T.at_; He.glo_ok X G (T.says.fact 72 (f := .glo "ORDERS") rfl)
theorem Tp.g_LABELS : mg "LABELS" = some (.ref (He.ga K "LABELS")) := let ⟨_, X, G⟩ := T.at_; He.glo_ok X G (T.says.fact 73 (f := .glo "LABELS") rfl)
theorem Tp.c_Sides : Cls K (He.ga K "Sides") := He.cls_ok (T.says.fact 74 (f := .cls "Sides") rfl)
theorem Tp.k_Sides : Mk K (He.ga K "Sides") (He.ma K (He.ga K "Sides") "__init__") := He.mkr_ok (T.says.fact 75 (f := .mkr "Sides") rfl)
theorem Tp.n_Sides_three : NoAttr K (He.ga K "Sides") "three" := He.noat_ok (T.says.fact 76 (f := .noat "Sides" "three") rfl)
theorem Tp.c_Parcel : Cls K (He.ga K "Parcel") := He.cls_ok (T.says.fact 77 (f := .cls "Parcel") rfl)
theorem Tp.k_Parcel : Mk K (He.ga K "Parcel") (He.ma K (He.ga K "Parcel") "__init__") := He.mkr_ok (T.says.fact 78 (f := .mkr "Parcel") rfl)
theorem Tp.n_Parcel_called : NoAttr K (He.ga K "Parcel") "called" := He.noat_ok (T.says.fact 79 (f := .noat "Parcel" "called") rfl)
theorem Tp.n_Parcel_outside : NoAttr K (He.ga K "Parcel") "outside" := He.noat_ok (T.says.fact 80 (f := .noat "Parcel" "outside") rfl)
theorem Tp.n_Parcel_thick : NoAttr K (He.ga K "Parcel") "thick" := He.noat_ok (T.says.fact 81 (f := .noat "Parcel" "thick") rfl)
theorem Tp.n_Parcel_heavy : NoAttr K (He.ga K "Parcel") "heavy" := He.noat_ok (T.says.fact 82 (f := .noat "Parcel" "heavy") rfl)
theorem Tp.n_Parcel_strong : NoAttr K (He.ga K "Parcel") "strong" := He.noat_ok (T.says.fact 83 (f := .noat "Parcel" "strong") rfl)
theorem Tp.n_Parcel_marks : NoAttr K (He.ga K "Parcel") "marks" := He.noat_ok (T.says.fact 84 (f := .noat "Parcel" "marks") rfl)
theorem Tp.c_Heap : Cls K (He.ga K "Heap") := He.cls_ok (T.says.fact 85 (f := .cls "Heap") rfl)
theorem Tp.k_Heap : Mk K (He.ga K "Heap") (He.ma K (He.ga K "Heap") "__init__") := He.mkr_ok (T.says.fact 86 (f := .mkr "Heap") rfl)
theorem Tp.n_Heap_held : NoAttr K (He.ga K "Heap") "held" := He.noat_ok (T.says.fact 87 (f := .noat "Heap" "held") rfl)
theorem Tp.c_Laid : Cls K (He.ga K "Laid") := He.cls_ok (T.says.fact 88 (f := .cls "Laid") rfl)
theorem Tp.k_Laid : Mk K (He.ga K "Laid") (He.ma K (He.ga K "Laid") "__init__") := He.mkr_ok (T.says.fact 89 (f := .mkr "Laid") rfl)
theorem Tp.n_Laid_paper : NoAttr K (He.ga K "Laid") "paper" := He.noat_ok (T.says.fact 90 (f := .noat "Laid" "paper") rfl)
theorem Tp.n_Laid_three : NoAttr K (He.ga K "Laid") "three" := He.noat_ok (T.says.fact 91 (f := .noat "Laid" "three") rfl)
theorem Tp.n_Laid_falling : NoAttr K (He.ga K "Laid") "falling" := He.noat_ok (T.says.fact 92 (f := .noat "Laid" "falling") rfl)
theorem Tp.m_Sides_told : Meth K (He.ga K "Sides") "told" (He.ma K (He.ga K "Sides") "told") := He.meth_ok (T.says.fact 93 (f := .meth "Sides" "told") rfl)
theorem Tp.m_Sides_ranked : Meth K (He.ga K "Sides") "ranked" (He.ma K (He.ga K "Sides") "ranked") := He.meth_ok (T.says.fact 94 (f := .meth "Sides" "ranked") rfl)
theorem Tp.m_Sides_str : Meth K (He.ga K "Sides") "__str__" (He.ma K (He.ga K "Sides") "__str__") := He.meth_ok (T.says.fact 95 (f := .meth "Sides" "__str__") rfl)
theorem Tp.m_Parcel_name : Meth K (He.ga K "Parcel") "name" (He.ma K (He.ga K "Parcel") "name") := He.meth_ok (T.says.fact 96 (f := .meth "Parcel" "name") rfl)
theorem Tp.m_Parcel_sides : Meth K (He.ga K "Parcel") "sides" (He.ma K (He.ga K "Parcel") "sides") := He.meth_ok (T.says.fact 97 (f := .meth "Parcel" "sides") rfl)
theorem Tp.m_Parcel_str : Meth K (He.ga K "Parcel") "__str__" (He.ma K (He.ga K "Parcel") "__str__") := He.meth_ok (T.says.fact 98 (f := .meth "Parcel" "__str__") rfl)
theorem Tp.m_Heap_place_of : Meth K (He.ga K "Heap") "place_of" (He.ma K (He.ga K "Heap") "place_of") := He.meth_ok (T.says.fact 99 (f := .meth "Heap" "place_of") rfl)
theorem Tp.m_Heap_put : Meth K (He.ga K "Heap") "put" (He.ma K (He.ga K "Heap") "put") := He.meth_ok (T.says.fact 100 (f := .meth "Heap" "put") rfl)
theorem Tp.m_Heap_out : Meth K (He.ga K "Heap") "out" (He.ma K (He.ga K "Heap") "out") := He.meth_ok (T.says.fact 101 (f := .meth "Heap" "out") rfl)
theorem Tp.m_Heap_parcel : Meth K (He.ga K "Heap") "parcel" (He.ma K (He.ga K "Heap") "parcel") := He.meth_ok (T.says.fact 102 (f := .meth "Heap" "parcel") rfl)
theorem Tp.m_Heap_names : Meth K (He.ga K "Heap") "names" (He.ma K (He.ga K "Heap") "names") := He.meth_ok (T.says.fact 103 (f := .meth "Heap" "names") rfl)
theorem Tp.m_Heap_parcels : Meth K (He.ga K "Heap") "parcels" (He.ma K (He.ga K "Heap") "parcels") := He.meth_ok (T.says.fact 104 (f := .meth "Heap" "parcels") rfl)
theorem Tp.m_Laid_holds : Meth K (He.ga K "Laid") "holds" (He.ma K (He.ga K "Laid") "holds") := He.meth_ok (T.says.fact 105 (f := .meth "Laid" "holds") rfl)
theorem Tp.f_is_whole : ∃ fd, FunD K "is_whole" "is_whole" (defArgs s_is_whole) (defBody s_is_whole) (defScope s_is_whole) [] [] (He.ga K "is_whole") fd := T.says.def_ 0 (d := d_is_whole) rfl
theorem Tp.f_is_name : ∃ fd, FunD K "is_name" "is_name" (defArgs s_is_name) (defBody s_is_name) (defScope s_is_name) [] [] (He.ga K "is_name") fd := T.says.def_ 1 (d := d_is_name) rfl
theorem Tp.f_is_order : ∃ fd, FunD K "is_order" "is_order" (defArgs s_is_order) (defBody s_is_order) (defScope s_is_order) [] [] (He.ga K "is_order") fd := T.says.def_ 2 (d := d_is_order) rfl
theorem Tp.f_Sides_init : ∃ fd, FunD K "__init__" "Sides.__init__" (defArgs s_Sides_init) (defBody s_Sides_init) (defScope s_Sides_init) [] [] (He.ma K (He.ga K "Sides") "__init__") fd := T.says.def_ 3 (d := d_Sides_init) rfl
theorem Tp.f_Sides_told : ∃ fd, FunD K "told" "Sides.told" (defArgs s_Sides_told) (defBody s_Sides_told) (defScope s_Sides_told) [] [] (He.ma K (He.ga K "Sides") "told") fd := T.says.def_ 4 (d := d_Sides_told) rfl
theorem Tp.f_Sides_ranked : ∃ fd, FunD K "ranked" "Sides.ranked" (defArgs s_Sides_ranked) (defBody s_Sides_ranked) (defScope s_Sides_ranked) [] [] (He.ma K (He.ga K "Sides") "ranked") fd := T.says.def_ 5 (d := d_Sides_ranked) rfl
theorem Tp.f_Sides_str : ∃ fd, FunD K "__str__" "Sides.__str__" (defArgs s_Sides_str) (defBody s_Sides_str) (defScope s_Sides_str) [] [] (He.ma K (He.ga K "Sides") "__str__") fd := T.says.def_ 6 (d := d_Sides_str) rfl
theorem Tp.f_are_labels : ∃ fd, FunD K "are_labels" "are_labels" (defArgs s_are_labels) (defBody s_are_labels) (defScope s_are_labels) [] [] (He.ga K "are_labels") fd := T.says.def_ 7 (d := d_are_labels) rfl
theorem Tp.f_Parcel_init : ∃ fd, FunD K "__init__" "Parcel.__init__" (defArgs s_Parcel_init) (defBody s_Parcel_init) (defScope s_Parcel_init) [V.int 1, V.int 0, V.int 0, V.non] [] (He.ma K (He.ga K "Parcel") "__init__") fd := T.says.def_ 8 (d := d_Parcel_init) rfl
theorem Tp.f_Parcel_name : ∃ fd, FunD K "name" "Parcel.name" (defArgs s_Parcel_name) (defBody s_Parcel_name) (defScope s_Parcel_name) [] [] (He.ma K (He.ga K "Parcel") "name") fd := T.says.def_ 9 (d := d_Parcel_name) rfl
theorem Tp.f_Parcel_sides : ∃ fd, FunD K "sides" "Parcel.sides" (defArgs s_Parcel_sides) (defBody s_Parcel_sides) (defScope s_Parcel_sides) [] [] (He.ma K (He.ga K "Parcel") "sides") fd := T.says.def_ 10 (d := d_Parcel_sides) rfl
theorem Tp.f_Parcel_str : ∃ fd, FunD K "__str__" "Parcel.__str__" (defArgs s_Parcel_str) (defBody s_Parcel_str) (defScope s_Parcel_str) [] [] (He.ma K (He.ga K "Parcel") "__str__") fd := T.says.def_ 11 (d := d_Parcel_str) rfl
theorem Tp.f_Heap_init : ∃ fd, FunD K "__init__" "Heap.__init__" (defArgs s_Heap_init) (defBody s_Heap_init) (defScope s_Heap_init) [] [] (He.ma K (He.ga K "Heap") "__init__") fd := T.says.def_ 12 (d := d_Heap_init) rfl
theorem Tp.f_Heap_place_of : ∃ fd, FunD K "place_of" "Heap.place_of" (defArgs s_Heap_place_of) (defBody s_Heap_place_of) (defScope s_Heap_place_of) [] [] (He.ma K (He.ga K "Heap") "place_of") fd := T.says.def_ 13 (d := d_Heap_place_of) rfl
theorem Tp.f_Heap_put : ∃ fd, FunD K "put" "Heap.put" (defArgs s_Heap_put) (defBody s_Heap_put) (defScope s_Heap_put) [V.non] [] (He.ma K (He.ga K "Heap") "put") fd := T.says.def_ 14 (d := d_Heap_put) rfl
theorem Tp.f_Heap_out : ∃ fd, FunD K "out" "Heap.out" (defArgs s_Heap_out) (defBody s_Heap_out) (defScope s_Heap_out) [] [] (He.ma K (He.ga K "Heap") "out") fd := T.says.def_ 15 (d := d_Heap_out) rfl
theorem Tp.f_Heap_parcel : ∃ fd, FunD K "parcel" "Heap.parcel" (defArgs s_Heap_parcel) (defBody s_Heap_parcel) (defScope s_Heap_parcel) [] [] (He.ma K (He.ga K "Heap") "parcel") fd := T.says.def_ 16 (d := d_Heap_parcel) rfl
theorem Tp.f_Heap_names : ∃ fd, FunD K "names" "Heap.names" (defArgs s_Heap_names) (defBody s_Heap_names) (defScope s_Heap_names) [] [] (He.ma K (He.ga K "Heap") "names") fd := T.says.def_ 17 (d := d_Heap_names) rfl
theorem Tp.f_Heap_parcels : ∃ fd, FunD K "parcels" "Heap.parcels" (defArgs s_Heap_parcels) (defBody s_Heap_parcels) (defScope s_Heap_parcels) [] [] (He.ma K (He.ga K "Heap") "parcels") fd := T.says.def_ 18 (d := d_Heap_parcels) rfl
theorem Tp.f_beside : ∃ fd, FunD K "beside" "beside" (defArgs s_beside) (defBody s_beside) (defScope s_beside) [] [] (He.ga K "beside") fd := T.says.def_ 19 (d := d_beside) rfl
theorem Tp.f_turned_three : ∃ fd, FunD K "turned_three" "turned_three" (defArgs s_turned_three) (defBody s_turned_three) (defScope s_turned_three) [] [] (He.ga K "turned_three") fd := T.says.def_ 20 (d := d_turned_three) rfl
theorem Tp.f_turned_by : ∃ fd, FunD K "turned_by" "turned_by" (defArgs s_turned_by) (defBody s_turned_by) (defScope s_turned_by) [] [] (He.ga K "turned_by") fd := T.says.def_ 21 (d := d_turned_by) rfl
theorem Tp.f_Laid_init : ∃ fd, FunD K "__init__" "Laid.__init__" (defArgs s_Laid_init) (defBody s_Laid_init) (defScope s_Laid_init) [] [] (He.ma K (He.ga K "Laid") "__init__") fd := T.says.def_ 22 (d := d_Laid_init) rfl
theorem Tp.f_Laid_holds : ∃ fd, FunD K "holds" "Laid.holds" (defArgs s_Laid_holds) (defBody s_Laid_holds) (defScope s_Laid_holds) [] [] (He.ma K (He.ga K "Laid") "holds") fd := T.says.def_ 23 (d := d_Laid_holds) rfl
theorem Tp.f_need_names : ∃ fd, FunD K "need_names" "need_names" (defArgs s_need_names) (defBody s_need_names) (defScope s_need_names) [] [] (He.ga K "need_names") fd := T.says.def_ 24 (d := d_need_names) rfl
theorem Tp.f_chosen : ∃ fd, FunD K "chosen" "chosen" (defArgs s_chosen) (defBody s_chosen) (defScope s_chosen) [] [] (He.ga K "chosen") fd := T.says.def_ 25 (d := d_chosen) rfl
theorem Tp.f_choices_of : ∃ fd, FunD K "choices_of" "choices_of" (defArgs s_choices_of) (defBody s_choices_of) (defScope s_choices_of) [] [] (He.ga K "choices_of") fd := T.says.def_ 26 (d := d_choices_of) rfl
theorem Tp.f_partings_of : ∃ fd, FunD K "partings_of" "partings_of" (defArgs s_partings_of) (defBody s_partings_of) (defScope s_partings_of) [] [] (He.ga K "partings_of") fd := T.says.def_ 27 (d := d_partings_of) rfl
theorem Tp.f_all_ways : ∃ fd, FunD K "all_ways" "all_ways" (defArgs s_all_ways) (defBody s_all_ways) (defScope s_all_ways) [] [] (He.ga K "all_ways") fd := T.says.def_ 28 (d := d_all_ways) rfl
theorem Tp.f_is_held : ∃ fd, FunD K "is_held" "is_held" (defArgs s_is_held) (defBody s_is_held) (defScope s_is_held) [] [] (He.ga K "is_held") fd := T.says.def_ 29 (d := d_is_held) rfl
theorem Tp.f_with_two : ∃ fd, FunD K "with_two" "with_two" (defArgs s_with_two) (defBody s_with_two) (defScope s_with_two) [] [] (He.ga K "with_two") fd := T.says.def_ 30 (d := d_with_two) rfl
theorem Tp.f_laid_lists : ∃ fd, FunD K "laid_lists" "laid_lists" (defArgs s_laid_lists) (defBody s_laid_lists) (defScope s_laid_lists) [] [] (He.ga K "laid_lists") fd := T.says.def_ 31 (d := d_laid_lists) rfl
theorem Tp.f_papers_of : ∃ fd, FunD K "papers_of" "papers_of" (defArgs s_papers_of) (defBody s_papers_of) (defScope s_papers_of) [] [] (He.ga K "papers_of") fd := T.says.def_ 32 (d := d_papers_of) rfl
theorem Tp.f_lists_of : ∃ fd, FunD K "lists_of" "lists_of" (defArgs s_lists_of) (defBody s_lists_of) (defScope s_lists_of) [] [] (He.ga K "lists_of") fd := T.says.def_ 33 (d := d_lists_of) rfl
theorem Tp.f_law_cell : ∃ fd, FunD K "_law_cell" "_law_cell" (defArgs s_law_cell) (defBody s_law_cell) (defScope s_law_cell) [] [] (He.ga K "_law_cell") fd := T.says.def_ 34 (d := d_law_cell) rfl
theorem Tp.f_law_purse : ∃ fd, FunD K "_law_purse" "_law_purse" (defArgs s_law_purse) (defBody s_law_purse) (defScope s_law_purse) [] [] (He.ga K "_law_purse") fd := T.says.def_ 35 (d := d_law_purse) rfl
theorem Tp.f_law_take : ∃ fd, FunD K "_law_take" "_law_take" (defArgs s_law_take) (defBody s_law_take) (defScope s_law_take) [] [] (He.ga K "_law_take") fd := T.says.def_ 36 (d := d_law_take) rfl
theorem Tp.f_law_names : ∃ fd, FunD K "_law_names" "_law_names" (defArgs s_law_names) (defBody s_law_names) (defScope s_law_names) [] [] (He.ga K "_law_names") fd := T.says.def_ 37 (d := d_law_names) rfl
theorem Tp.f_law_orders : ∃ fd, FunD K "_law_orders" "_law_orders" (defArgs s_law_orders) (defBody s_law_orders) (defScope s_law_orders) [] [] (He.ga K "_law_orders") fd := T.says.def_ 38 (d := d_law_orders) rfl
theorem Tp.f_law_three : ∃ fd, FunD K "_law_three" "_law_three" (defArgs s_law_three) (defBody s_law_three) (defScope s_law_three) [] [] (He.ga K "_law_three") fd := T.says.def_ 39 (d := d_law_three) rfl
theorem Tp.f_law_heap : ∃ fd, FunD K "_law_heap" "_law_heap" (defArgs s_law_heap) (defBody s_law_heap) (defScope s_law_heap) [] [] (He.ga K "_law_heap") fd := T.says.def_ 40 (d := d_law_heap) rfl
theorem Tp.f_law_laying : ∃ fd, FunD K "_law_laying" "_law_laying" (defArgs s_law_laying) (defBody s_law_laying) (defScope s_law_laying) [] [] (He.ga K "_law_laying") fd := T.says.def_ 41 (d := d_law_laying) rfl
theorem Tp.f_law_picked : ∃ fd, FunD K "_law_picked" "_law_picked" (defArgs s_law_picked) (defBody s_law_picked) (defScope s_law_picked) [] [] (He.ga K "_law_picked") fd := T.says.def_ 42 (d := d_law_picked) rfl
theorem Tp.f_law_book : ∃ fd, FunD K "_law_book" "_law_book" (defArgs s_law_book) (defBody s_law_book) (defScope s_law_book) [] [] (He.ga K "_law_book") fd := T.says.def_ 43 (d := d_law_book) rfl
theorem Tp.f_law_span : ∃ fd, FunD K "_law_span" "_law_span" (defArgs s_law_span) (defBody s_law_span) (defScope s_law_span) [] [] (He.ga K "_law_span") fd := T.says.def_ 44 (d := d_law_span) rfl
theorem Tp.f_law_named : ∃ fd, FunD K "_law_named" "_law_named" (defArgs s_law_named) (defBody s_law_named) (defScope s_law_named) [] [] (He.ga K "_law_named") fd := T.says.def_ 45 (d := d_law_named) rfl
theorem Tp.f_law_is_whole : ∃ fd, FunD K "_law_is_whole" "_law_is_whole" (defArgs s_law_is_whole) (defBody s_law_is_whole) (defScope s_law_is_whole) [] [] (He.ga K "_law_is_whole") fd := T.says.def_ 46 (d := d_law_is_whole) rfl
theorem Tp.f_law_is_order : ∃ fd, FunD K "_law_is_order" "_law_is_order" (defArgs s_law_is_order) (defBody s_law_is_order) (defScope s_law_is_order) [] [] (He.ga K "_law_is_order") fd := T.says.def_ 47 (d := d_law_is_order) rfl
theorem Tp.f_law_choices : ∃ fd, FunD K "_law_choices" "_law_choices" (defArgs s_law_choices) (defBody s_law_choices) (defScope s_law_choices) [] [] (He.ga K "_law_choices") fd := T.says.def_ 48 (d := d_law_choices) rfl
theorem Tp.f_law_all_choices : ∃ fd, FunD K "_law_all_choices" "_law_all_choices" (defArgs s_law_all_choices) (defBody s_law_all_choices) (defScope s_law_all_choices) [] [] (He.ga K "_law_all_choices") fd := T.says.def_ 49 (d := d_law_all_choices) rfl
theorem Tp.f_law_held : ∃ fd, FunD K "_law_held" "_law_held" (defArgs s_law_held) (defBody s_law_held) (defScope s_law_held) [] [] (He.ga K "_law_held") fd := T.says.def_ 50 (d := d_law_held) rfl
theorem Tp.f_law_pairs_held : ∃ fd, FunD K "_law_pairs_held" "_law_pairs_held" (defArgs s_law_pairs_held) (defBody s_law_pairs_held) (defScope s_law_pairs_held) [] [] (He.ga K "_law_pairs_held") fd := T.says.def_ 51 (d := d_law_pairs_held) rfl
theorem Tp.f_law_list_right : ∃ fd, FunD K "_law_list_right" "_law_list_right" (defArgs s_law_list_right) (defBody s_law_list_right) (defScope s_law_list_right) [] [] (He.ga K "_law_list_right") fd := T.says.def_ 52 (d := d_law_list_right) rfl
theorem Tp.f_law_shown : ∃ fd, FunD K "_law_shown" "_law_shown" (defArgs s_law_shown) (defBody s_law_shown) (defScope s_law_shown) [] [] (He.ga K "_law_shown") fd := T.says.def_ 53 (d := d_law_shown) rfl
theorem Tp.f_law_ranked : ∃ fd, FunD K "_law_ranked" "_law_ranked" (defArgs s_law_ranked) (defBody s_law_ranked) (defScope s_law_ranked) [] [] (He.ga K "_law_ranked") fd := T.says.def_ 54 (d := d_law_ranked) rfl
theorem Tp.f_law_stood : ∃ fd, FunD K "_law_stood" "_law_stood" (defArgs s_law_stood) (defBody s_law_stood) (defScope s_law_stood) [] [] (He.ga K "_law_stood") fd := T.says.def_ 55 (d := d_law_stood) rfl
theorem Tp.f_law_right : ∃ fd, FunD K "_law_right" "_law_right" (defArgs s_law_right) (defBody s_law_right) (defScope s_law_right) [] [] (He.ga K "_law_right") fd := T.says.def_ 56 (d := d_law_right) rfl
theorem Tp.f_law_again : ∃ fd, FunD K "_law_again" "_law_again" (defArgs s_law_again) (defBody s_law_again) (defScope s_law_again) [] [] (He.ga K "_law_again") fd := T.says.def_ 57 (d := d_law_again) rfl
theorem Tp.f_law_replaced : ∃ fd, FunD K "_law_replaced" "_law_replaced" (defArgs s_law_replaced) (defBody s_law_replaced) (defScope s_law_replaced) [] [] (He.ga K "_law_replaced") fd := T.says.def_ 58 (d := d_law_replaced) rfl
theorem Tp.f_law_four_right : ∃ fd, FunD K "_law_four_right" "_law_four_right" (defArgs s_law_four_right) (defBody s_law_four_right) (defScope s_law_four_right) [] [] (He.ga K "_law_four_right") fd := T.says.def_ 59 (d := d_law_four_right) rfl
theorem Tp.f_law : ∃ fd, FunD K "law" "law" (defArgs s_law) (defBody s_law) (defScope s_law) [] [] (He.ga K "law") fd := T.says.def_ 60 (d := d_law) rfl
theorem insB_ok {K : PySem.W.Frag} {C : Addr} (c : Cls K C) (h : insB K C = true) : C8.InsC K C := by
  obtain ⟨h1, h⟩ := He.ba h
  obtain ⟨h2, h⟩ := He.ba h
  obtain ⟨h3, h⟩ := He.ba h
  obtain ⟨h4, h5⟩ := He.ba h
  exact ⟨c, He.eqO_ok h1, He.eqO_ok h2, of_decide_eq_true h3, of_decide_eq_true h4, of_decide_eq_true h5⟩
theorem Tp.sys : ∃ c d es n sl, K.lookup sysModules = some ⟨c, d, .dict es n, sl⟩ := sysB_ok (He.ba T.more).1
theorem Tp.is_Sides : C8.InsC K (He.ga K "Sides") := insB_ok T T.c_Sides (He.ba (He.ba (He.ba (He.ba T.more).2).2).2).1
theorem Tp.is_Parcel : C8.InsC K (He.ga K "Parcel") := insB_ok T T.c_Parcel (He.ba (He.ba (He.ba (He.ba T.more).2).2).2).2
end
end BX
/-! short words over HandS: calls by promises, what stands (G) and the heap (H), data -/
namespace BX
open PySem PySem.Spec PyProof.Rows L2

/-! ### extension -/
def Ex (H H' : Hp) : Prop := ∀ a o, H a = some o → H' a = some o
theorem Ex.refl (H : Hp) : Ex H H := fun _ _ h => h
theorem Ex.trans {H H1 H2 : Hp} (a : Ex H H1) (b : Ex H1 H2) : Ex H H2 := fun x o h => b x o (a x o h)
theorem Ex.new {H : Hp} {p : Addr} {o : HO} (h : H p = none) : Ex H (upd H p o) := fun a u e => by
  rw [upd_ne (ne_of_none e h)]
  exact e
theorem ex_rd {H H' : Hp} {a : Addr} {u : HO} (e : Ex H H') (h : Rd H a u) : Rd H' a u := by
  rcases h with h | ⟨o, h⟩
  · exact Or.inl (e a _ h)
  · exact Or.inr ⟨o, e a _ h⟩
theorem ex_l {K : PySem.W.Frag} {H H' : Hp} {a : Addr} {xs : List V} (e : Ex H H') (h : SqL K H a xs) : SqL K H' a xs := by
  rcases h with h | h
  · exact Or.inl (ex_rd e h)
  · exact Or.inr h
theorem ex_t {K : PySem.W.Frag} {H H' : Hp} {a : Addr} {xs : List V} (e : Ex H H') (h : SqT K H a xs) : SqT K H' a xs := by
  rcases h with h | h
  · exact Or.inl (ex_rd e h)
  · exact Or.inr h
theorem sq_of {K : PySem.W.Frag} {H : Hp} {a : Addr} {xs : List V} (h : H a = some (.lst xs)) : SqL K H a xs := Or.inl (Or.inl h)
theorem st_of {K : PySem.W.Frag} {H : Hp} {a : Addr} {xs : List V} (h : H a = some (.tup xs)) : SqT K H a xs := Or.inl (Or.inl h)
theorem sz_of {n : Nat} (h : n ≤ 1000000) : n ≤ sizeLine := Nat.le_trans h (by decide)
theorem sz_lt {n : Nat} (h : n < 1000000) : n < sizeLine := Nat.lt_of_lt_of_le h (by decide)
theorem back {H H' : Hp} {p : Addr} (e : Ex H H') (h : H' p = none) : H p = none := by
  cases h1 : H p with
  | none => rfl
  | some o =>
    rw [e p o h1] at h
    cases h

/-! ### what stands (G) grows to G', the heap H to H'; at m the heap may change -/
structure Gr (m : Option Addr) (G H G' H' : Hp) : Prop where
  g : Ex G G'
  h : ∀ a o, m ≠ some a → H a = some o → H' a = some o
  s : Ex G' H'
  n : ∀ a o, G' a = some o → G a = some o ∨ H a = none
theorem Gr.refl {m : Option Addr} {G H : Hp} (s : Ex G H) : Gr m G H G H := ⟨Ex.refl G, fun _ _ _ e => e, s, fun _ _ e => Or.inl e⟩
theorem Gr.trans {m : Option Addr} {G H G1 H1 G2 H2 : Hp} (a : Gr m G H G1 H1) (b : Gr m G1 H1 G2 H2) (hm : ∀ x, m = some x → G x = none ∧ G2 x = none := by intro x z; cases z) : Gr m G H G2 H2 :=
  ⟨a.g.trans b.g, fun x o hx e => b.h x o hx (a.h x o hx e), b.s, fun x o e => by
    by_cases hx : m = some x
    · obtain ⟨_, h2⟩ := hm x hx
      rw [h2] at e
      cases e
    · rcases b.n x o e with q | q
      · exact a.n x o q
      · cases r : H x with
        | none => exact Or.inr rfl
        | some u =>
          have q2 := a.h x u hx r
          rw [q] at q2
          cases q2⟩
theorem Gr.up {m : Option Addr} {G H G' H' : Hp} (a : Gr none G H G' H') : Gr m G H G' H' := ⟨a.g, fun x o _ e => a.h x o (fun z => nomatch z) e, a.s, a.n⟩
/-- the pure one keeps every object -/
theorem Gr.e {G H G' H' : Hp} (a : Gr none G H G' H') : Ex H H' := fun x o e => a.h x o (fun z => nomatch z) e
/-- an address that G does not hold and H does stays out -/
theorem Gr.out {m : Option Addr} {G H G' H' : Hp} (a : Gr m G H G' H') {p : Addr} {o : HO} (h : G p = none) (hh : H p = some o) : G' p = none := by
  cases e : G' p with
  | none => rfl
  | some u =>
    rcases a.n p u e with q | q
    · rw [h] at q
      cases q
    · rw [hh] at q
      cases q
/-- a new object, kept in G -/
theorem Gr.new {m : Option Addr} {G0 H0 G H : Hp} (a : Gr m G0 H0 G H) {p : Addr} {o : HO} (h : H p = none) (hm : ∀ x, m = some x → H x ≠ none := by intro x z; cases z) : Gr m G0 H0 (upd G p o) (upd H p o) := by
  have hg : G p = none := back a.s h
  refine ⟨a.g.trans (Ex.new hg), fun x u hx e => ?_, fun x u e => ?_, fun x u e => ?_⟩
  · have q := a.h x u hx e
    rw [upd_ne (ne_of_none q h)]
    exact q
  · by_cases hx : x = p
    · rw [hx, upd_same] at e
      rw [hx, upd_same]
      exact e
    · rw [upd_ne hx] at e
      rw [upd_ne hx]
      exact a.s x u e
  · by_cases hx : x = p
    · subst hx
      cases r : H0 x with
      | none => exact Or.inr rfl
      | some w =>
        by_cases hxm : m = some x
        · exact absurd h (hm x hxm)
        · have q := a.h x w hxm r
          rw [h] at q
          cases q
    · rw [upd_ne hx] at e
      exact a.n x u e
/-- a new object, left out of G (it will change) -/
theorem Gr.mut {m : Option Addr} {G0 H0 G H : Hp} (a : Gr m G0 H0 G H) {p : Addr} {o : HO} (h0 : H0 p = none) (hg : G p = none) : Gr m G0 H0 G (upd H p o) := by
  refine ⟨a.g, fun x u hx e => ?_, fun x u e => ?_, a.n⟩
  · have q := a.h x u hx e
    have hxp : x ≠ p := fun z => by
      rw [z, h0] at e
      cases e
    rw [upd_ne hxp]
    exact q
  · have hxp : x ≠ p := fun z => by
      rw [z, hg] at e
      cases e
    rw [upd_ne hxp]
    exact a.s x u e
/-- what was left out is taken in -/
theorem Gr.keep {m : Option Addr} {G0 H0 G H : Hp} (a : Gr m G0 H0 G H) {p : Addr} {o : HO} (h0 : H0 p = none) (hg : G p = none) (hh : H p = some o) : Gr m G0 H0 (upd G p o) H := by
  refine ⟨a.g.trans (Ex.new hg), a.h, fun x u e => ?_, fun x u e => ?_⟩
  · by_cases hx : x = p
    · rw [hx, upd_same] at e
      rw [hx, hh]
      exact e
    · rw [upd_ne hx] at e
      exact a.s x u e
  · by_cases hx : x = p
    · exact Or.inr (by rw [hx]; exact h0)
    · rw [upd_ne hx] at e
      exact a.n x u e
/-- the heap ahead had not what it has not behind -/
theorem Gr.free {m : Option Addr} {G0 H0 G H : Hp} (a : Gr m G0 H0 G H) {p : Addr} (h : H p = none) (hm : ∀ x, m = some x → H x ≠ none := by intro x z; cases z) : H0 p = none := by
  cases r : H0 p with
  | none => rfl
  | some u =>
    by_cases hx : m = some p
    · exact absurd h (hm p hx)
    · have q := a.h p u hx r
      rw [h] at q
      cases q

/-! ### a def by its promise -/
structure FnE (P : Program) (w : World) (K : PySem.W.Frag) (mg : Str → Option Value) (base : Heap) (k : Nat) (f : Addr) (ps : List Str) (dvs : List V) (sp : Sp) : Prop where
  ex : ∃ fd ds, FnOk P w K mg base CX0 k f fd ps sp ∧ Binds K fd ps ds ∧ Vals dvs ds
  kp : PySem.W.keepIn K (.ref f) = true
theorem FnE.mono {P : Program} {w : World} {K : PySem.W.Frag} {mg : Str → Option Value} {base : Heap} {j k : Nat} {f : Addr} {ps : List Str} {dvs : List V} {sp : Sp} (F : FnE P w K mg base j f ps dvs sp) (h : j ≤ k) : FnE P w K mg base k f ps dvs sp := by
  obtain ⟨⟨fd, ds, a, b, c⟩, kp⟩ := F
  exact ⟨⟨fd, ds, a.mono h, b, c⟩, kp⟩
theorem FnE.imp {P : Program} {w : World} {K : PySem.W.Frag} {mg : Str → Option Value} {base : Heap} {k : Nat} {f : Addr} {ps : List Str} {dvs : List V} {sp sp' : Sp} (F : FnE P w K mg base k f ps dvs sp) (h : ∀ vs H Q E, sp' vs H Q E → sp vs H Q E) : FnE P w K mg base k f ps dvs sp' := by
  obtain ⟨⟨fd, ds, a, b, c⟩, kp⟩ := F
  exact ⟨⟨fd, ds, a.imp h, b, c⟩, kp⟩
section
variable {P : Program} {w : World} {K : PySem.W.Frag} {mg : Str → Option Value} {base : Heap}
/-- a def without defaults, from its body -/
theorem fne {x qual : Str} {st : Stmt} {f : Addr} {N ps : List Str} {k : Nat} {sp : Sp} (F : ∃ fd, FunD K x qual (defArgs st) (defBody st) (defScope st) [] [] f fd) (S : FnScope N ps (defScope st)) (len : ∀ vs H Q E, sp vs H Q E → vs.length = ps.length)
    (hb : ∀ (kV doc pm : Value) (an : Option Addr) (cdv ct : Value) (us : List Value), us.length = ps.length → bindArgs (PySem.W.fnOf x qual (defArgs st) (defBody st) (defScope st) .none kV doc pm an cdv ct) ⟨us, []⟩ = pure (ps.zip us))
    (hbody : ∀ (cdv : Value) (A : Around) (outer : List Env) (s : Shared) (H : Hp) (vs : List V) (Q : VK) (E : XK), Room k (A.deeper (envOfC qual (defScope st) s.heap.objs.size f cdv)) → sp vs H Q E →
      ∃ t, PSs (cxOf CX0 P w K mg base N qual (defScope st) f cdv A outer s H E).nox (defBody st) t ∧ t { nx := fun _ H' => Q .non H', rt := Q } (start N vs) H) : FnE P w K mg base (k + 1) f ps [] sp := by
  obtain ⟨fd, F⟩ := F
  refine ⟨⟨fd, [], F.ok S len fun cdv A outer s H vs Q E hr h => ?_, F.bindsN hb, .nil⟩, F.kp⟩
  obtain ⟨t, h1, h2⟩ := hbody cdv A outer s H vs Q E hr h
  exact ⟨t, h1.nox, h2⟩
end
section
variable {X : Cx} {k : Nat} {f : Addr} {ps : List Str} {dvs : List V} {sp : Sp} {x : Str} {e : Expr} {es : List Expr} {t : TA} {p pos : Pos}
theorem pcall (F : FnE X.prog X.w X.K X.mg X.base k f ps dvs sp) (hr : Room k X.A) (hm : X.mg x = some (.ref f)) (ha : PA X (e :: es) t) (hg : Gl X x := by rfl) (hdb : (x == ("__debug__" : Str)) = false := by decide)
    (he : starEach (e :: es) X.env = (false, eval e X.env) :: starEach es X.env := by rfl) (hpl : (backTo pos (starEach es X.env)).any (·.1) = false := by rfl) : PE X (.Call (.Name x p) (e :: es) [] pos) (tCall sp dvs E0 t) := by
  obtain ⟨⟨fd, ds, a, b, c⟩, kp⟩ := F
  exact pe_call a hr hg hm kp b c pass0 ha hdb he hpl
theorem pcall0 (F : FnE X.prog X.w X.K X.mg X.base k f ps dvs sp) (hr : Room k X.A) (hm : X.mg x = some (.ref f)) (hg : Gl X x := by rfl) (hdb : (x == ("__debug__" : Str)) = false := by decide) : PE X (.Call (.Name x p) [] [] pos) (tCall sp dvs E0 tNil) := by
  obtain ⟨⟨fd, ds, a, b, c⟩, kp⟩ := F
  exact pe_call0 a hr hg hm kp b c pass0 hdb
variable {C : Addr} {o : Expr} {m : Str} {ta : TE} {apos : Pos}
theorem pmeth {pl : Sem Bool} (ho : PE X o ta) (c : Cls X.K C) (hm : Meth X.K C m f) (F : FnE X.prog X.w X.K X.mg X.base k f ps dvs sp) (hr : Room k X.A) (ha : PA X (e :: es) t)
    (hst : starEach (e :: es) X.env = (false, eval e X.env) :: starEach es X.env := by rfl) (hpl : (backTo pos (starEach es X.env)).any (·.1) = false := by rfl)
    (ht : eval (.Call (.Attribute o m apos) (e :: es) [] pos) X.env = (do
      let ov ← eval o X.env
      standAt apos.atName
      let (f, first) ← holding [ov] (getMethod ov m pl)
      callWith pos f first (backTo pos (starEach (e :: es) X.env)) (backToKw pos (keywordEach [] X.env))) := by rfl) : PE X (.Call (.Attribute o m apos) (e :: es) [] pos) (tMeth C m sp dvs E0 ta t) := by
  obtain ⟨⟨fd, ds, a, b, cc⟩, kp⟩ := F
  exact pe_meth ho c hm a hr b cc pass0 ha hst hpl ht
theorem pmeth0 {pl : Sem Bool} (ho : PE X o ta) (c : Cls X.K C) (hm : Meth X.K C m f) (F : FnE X.prog X.w X.K X.mg X.base k f ps dvs sp) (hr : Room k X.A)
    (ht : eval (.Call (.Attribute o m apos) [] [] pos) X.env = (do
      let ov ← eval o X.env
      standAt apos.atName
      let (f, first) ← holding [ov] (getMethod ov m pl)
      callWith pos f first (backTo pos (starEach [] X.env)) (backToKw pos (keywordEach [] X.env))) := by rfl) : PE X (.Call (.Attribute o m apos) [] [] pos) (tMeth C m sp dvs E0 ta tNil) := by
  obtain ⟨⟨fd, ds, a, b, cc⟩, kp⟩ := F
  exact pe_meth0 ho c hm a hr b cc pass0 ht
theorem pmake (M : Mk X.K C f) (F : FnE X.prog X.w X.K X.mg X.base k f ps dvs sp) (hr : Room (k + 1) X.A) (hm : X.mg x = some (.ref C)) (ha : PA X (e :: es) t) (hg : Gl X x := by rfl) (hdb : (x == ("__debug__" : Str)) = false := by decide)
    (he : starEach (e :: es) X.env = (false, eval e X.env) :: starEach es X.env := by rfl) (hpl : (backTo pos (starEach es X.env)).any (·.1) = false := by rfl) : PE X (.Call (.Name x p) (e :: es) [] pos) (tMake C sp dvs E0 t) := by
  obtain ⟨⟨fd, ds, a, b, c⟩, kp⟩ := F
  exact pe_make M a hr hg hm b c pass0 ha hdb he hpl
theorem pmake0 (M : Mk X.K C f) (F : FnE X.prog X.w X.K X.mg X.base k f ps dvs sp) (hr : Room (k + 1) X.A) (hm : X.mg x = some (.ref C)) (hg : Gl X x := by rfl) (hdb : (x == ("__debug__" : Str)) = false := by decide) : PE X (.Call (.Name x p) [] [] pos) (tMake C sp dvs E0 tNil) := by
  obtain ⟨⟨fd, ds, a, b, c⟩, kp⟩ := F
  exact pe_make0 M a hr hg hm b c pass0 hdb
/-! names -/
theorem pgi {i : Int} (h : ∃ u, X.mg x = some (.int i u)) (hg : Gl X x := by rfl) (hd : (x == ("__debug__" : Str)) = false := by decide) : PE X (.Name x pos) (tC (.int i)) := by
  obtain ⟨u, hu⟩ := h
  exact pe_glob (v := .int i) hg hu ⟨_, rfl⟩ hd
theorem pgs {z : Str} (h : ∃ u, X.mg x = some (.str z u)) (hg : Gl X x := by rfl) (hd : (x == ("__debug__" : Str)) = false := by decide) : PE X (.Name x pos) (tC (.str z)) := by
  obtain ⟨u, hu⟩ := h
  exact pe_glob (v := .str z) hg hu ⟨_, rfl⟩ hd
theorem pgr {a : Addr} (h : X.mg x = some (.ref a)) (hg : Gl X x := by rfl) (hd : (x == ("__debug__" : Str)) = false := by decide) : PE X (.Name x pos) (tC (.ref a)) := pe_glob (v := .ref a) hg h rfl hd
theorem pty {n : String} (h : X.mg x = none) (hg : Gl X x := by rfl) (hv : bootBuiltins x = some (.type n) := by decide +kernel) (hn : x ≠ "__name__" := by decide) (hd : (x == ("__debug__" : Str)) = false := by decide) : PE X (.Name x pos) (tC (.ty n)) := pe_bltn hg h hv rfl hn hd
theorem pset (i : Nat) {x : Str} {e : Expr} {te : TE} {pos' pos : Pos} (nd : X.N.Nodup) (he : PE X e te) (hi : X.N[i]? = some x := by rfl) (hx : Loc X.env.scope x := by first | exact Or.inl rfl | exact Or.inr rfl)
    (hf : X.fn x = true ∨ X.env.scope.names.lookup x = some .local := by first | exact Or.inl rfl | exact Or.inr rfl)
    (hs : swapsWith e (some (.Name x pos')) pos.line X.env = pure false := by rfl) : PS X (.Assign [.Name x pos'] e pos) (tAsg te (gName i)) := ps_set nd hi hx he hs hf
theorem pgn (i : Nat) {x : Str} {pos : Pos} (nd : X.N.Nodup) (hi : X.N[i]? = some x := by rfl) (hx : Loc X.env.scope x := by first | exact Or.inl rfl | exact Or.inr rfl)
    (hf : X.fn x = true ∨ X.env.scope.names.lookup x = some .local := by first | exact Or.inl rfl | exact Or.inr rfl) : PG X (.Name x pos) (gName i) := pg_name nd hi hx hf
end
/-! built-ins, the written part told by K -/
abbrev RC := List V → Hp → VK → Prop
def rLenQ (K : PySem.W.Frag) : RC := fun xs H Q => ∃ p ys, xs = [.ref p] ∧ (SqL K H p ys ∨ SqT K H p ys) ∧ Q (.int ys.length) H
def rLenS : RC := fun xs H Q => ∃ z : Str, xs = [.str z] ∧ z.length ≤ sizeLine ∧ Q (.int z.length) H
def rListQ (K : PySem.W.Frag) : RC := fun xs H Q => ∃ p ys, xs = [.ref p] ∧ (SqL K H p ys ∨ SqT K H p ys) ∧ ∀ l, H l = none → Q (.ref l) (upd H l (.lst ys))
def rTupQ (K : PySem.W.Frag) : RC := fun xs H Q => ∃ p ys, xs = [.ref p] ∧ ((SqL K H p ys ∧ ∀ l, H l = none → Q (.ref l) (upd H l (.tup ys))) ∨ (SqT K H p ys ∧ Q (.ref p) H))
def rMax2 : RC := fun xs H Q => ∃ i j, xs = [.int i, .int j] ∧ Q (.int (if j > i then j else i)) H
def rMin2 : RC := fun xs H Q => ∃ i j, xs = [.int i, .int j] ∧ Q (.int (if j < i then j else i)) H
def rIsC (C : Addr) : RC := fun xs H Q => ∃ a dx fs, xs = [.ref a, .ref C] ∧ H a = some (.ins C dx fs) ∧ Q (.bl true) H
def rListDT : RC := fun xs H Q => ∃ d kvs, xs = [V.ref d] ∧ Rd H d (.dT kvs) ∧ ∀ p bs, H p = none → IsKeys H kvs bs → Q (.ref p) (upd H p (.lst (bs.map V.ref)))
def rDictD : RC := fun xs H Q => ∃ (a : Addr) (kvs : List (Key × V)), xs = [.ref a] ∧ Rd H a (.dK kvs) ∧ ∀ p, H p = none → Q (.ref p) (upd H p (.dK kvs))
def rStrI : RC := fun xs H Q => ∃ i : Int, xs = [.int i] ∧ i.natAbs.log2 < 1920 ∧ Q (.str (toString i)) H
section
variable {X : Cx}
theorem cLenQ : CallR X (.builtin "len") (rLenQ X.K) := call_len_seq
theorem cLenS : CallR X (.builtin "len") rLenS := call_len_str
theorem cListQ : CallR X (.type "list") (rListQ X.K) := call_list_of
theorem cTupQ : CallR X (.type "tuple") (rTupQ X.K) := call_tuple_of
theorem cMax2 (hc : X.calm = true) : CallR X (.builtin "max") rMax2 := call_max2 hc
theorem cMin2 (hc : X.calm = true) : CallR X (.builtin "min") rMin2 := call_min2 hc
theorem cIsC {C : Addr} (c : C8.InsC X.K C) : CallR X (.builtin "isinstance") (rIsC C) := C8.call_isC c
theorem cListDT (hc : X.calm = true) : CallR X (.type "list") rListDT := call_list_dT hc
theorem cDictD : CallR X (.type "dict") rDictD := call_dictD
theorem cStrI : CallR X (.type "str") rStrI := call_str_int
/-- texts -/
def tSplit (to te : TE) : TE := tM1 (fun x xs H Q => ∃ a b : Str, x = .str a ∧ xs = [.str b] ∧ (b.length == 0) = false ∧ a.length + 2 ≤ sizeLine ∧ rNewStrs (Txt.split a b) H Q) to te
def tJoin (K : PySem.W.Frag) (to te : TE) : TE := tM1 (fun x xs H Q => ∃ a p, ∃ ys : List Str, x = .str a ∧ xs = [.ref p] ∧ (SqL K H p (ys.map V.str) ∨ SqT K H p (ys.map V.str)) ∧ (ys.map (·.length)).sum + ys.length * a.length ≤ 16777216 ∧ Q (.str (Txt.join a ys)) H) to te
end
end BX
/-! rules of our own -/
namespace BX
open PySem PySem.Spec PyProof.Rows L2
/-! ### sorted of whole numbers, of texts; a list or a tuple -/
section
variable {prog : Program} {w : World} {A : Around} {E : Value → Shared → Prop} {s : Shared}
/-- what is collected from a tuple -/
theorem collectT {t : Addr} {vs : List Value} {Q : List Value → Shared → Prop} (ht : IsTup s.heap t vs.toArray) (hz : vs.length ≤ sizeLine)
    (k : Q vs { s with heap := (s.heap.push (seqObj "list" #[] 0)).update s.heap.objs.size (Obj.mapSeq (· ++ vs.toArray)) }) :
    wpAny (model prog w) A (collect (.ref t)) Q E s := by
  obtain ⟨o, ho, hc, n, hd⟩ := ht
  unfold collect
  refine wpAny_bind (wpAny_runValue (codeAny_builtin entry_proto_collect' (wpAny_bind (m := newList []) (wpAny_newList (wpAny_pure ⟨Code.quiet_builtin _ (by decide +kernel), codeAny_builtin entry_list_iadd' ?_⟩)))))
  show wpAny _ _ (Builtin.List.listExtendWith (.ref s.heap.objs.size) (.ref t) (.ref s.heap.objs.size)) _ _ { s with heap := s.heap.push (seqObj "list" #[] 0) }
  unfold Builtin.List.listExtendWith
  have h2 : (s.heap.push (seqObj "list" #[] 0)).get? t = some o := Heap.get?_push_of_some _ ho
  refine wpAny_bind (wpAny_typeOf (T := "tuple") ⟨o, h2, hc⟩ ?_)
  rw [if_pos (by simp)]
  refine wpAny_bind (listItems_at h2 hd (wpAny_bind (listItems_at (xs := #[]) (n := 0) (Heap.get?_push_size _ rfl) rfl ?_)))
  rw [if_neg (by simp)]
  refine wpAny_bind (listUpdate_at (xs := #[]) (n := 0) (Heap.get?_push_size _ rfl) rfl (wpAny_pure ?_) (Nat.zero_le _) (by simp only [Array.size_append, List.size_toArray]; show 0 + vs.length ≤ sizeLine + 1; omega))
  refine wpAny_bind (wpAny_load (get?_update_seq (Heap.get?_push_size _ rfl) _) ?_)
  show wpAny _ _ (pure ((#[] : Array Value) ++ vs.toArray).toList) Q E _
  rw [show ((#[] : Array Value) ++ vs.toArray).toList = vs by simp]
  exact wpAny_pure k
/-- what is collected from a list or a tuple -/
theorem collectQ {a : Addr} {vs : List Value} {Q : List Value → Shared → Prop} (ht : s.heap.IsList a vs.toArray ∨ IsTup s.heap a vs.toArray) (hz : vs.length ≤ sizeLine)
    (k : Q vs { s with heap := (s.heap.push (seqObj "list" #[] 0)).update s.heap.objs.size (Obj.mapSeq (· ++ vs.toArray)) }) : wpAny (model prog w) A (collect (.ref a)) Q E s := by
  rcases ht with h | h
  · exact collect_list h k hz
  · exact collectT h hz k
/-- sorted by list.sort's own rule: L tells the sort, kw its keywords -/
theorem sortedC {a : Addr} {vs : List Value} {kw : List (Str × Value)} {P : List Value → Prop} {Q : Value → Shared → Prop} (ht : s.heap.IsList a vs.toArray ∨ IsTup s.heap a vs.toArray) (hz : vs.length ≤ sizeLine) (ha : argsOk "sorted" ⟨[.ref a], kw⟩)
    (L : ∀ (s' : Shared) (l : Addr) (R : Value → Shared → Prop), s'.heap.get? l = some (seqObj "list" vs.toArray 0) → (∀ out, P out → R .none { s' with heap := sortedHeap s'.heap l vs out.toArray }) →
      wpAny (model prog w) A.in1 (call (.builtin "list.sort") [.ref l] kw) R E s')
    (k : ∀ out, P out → Q (.ref (s.heap.objs.size + 1)) { s with heap := sortedAll s.heap vs out.toArray }) : wpAny (model prog w) A (call (.builtin "sorted") [.ref a] kw) Q E s := by
  refine call_function_entry_kw kind_sorted plain_sorted entry_sorted ha ?_
  unfold Builtin.«sorted»
  refine wpAny_bind (m := checkCount "sorted" 1 1 _) (wpAny_pure (wpAny_bind (collectQ ht hz (wpAny_bind (wpAny_newList ?_ hz)))))
  have e1 : ((s.heap.push (seqObj "list" #[] 0)).update s.heap.objs.size (Obj.mapSeq (· ++ vs.toArray))).objs.size = s.heap.objs.size + 1 := by rw [Heap.size_update, size_push']
  have e2 : (((s.heap.push (seqObj "list" #[] 0)).update s.heap.objs.size (Obj.mapSeq (· ++ vs.toArray))).push (seqObj "list" vs.toArray 0)).get? (s.heap.objs.size + 1) = some (seqObj "list" vs.toArray 0) := by
    rw [← e1]
    exact Heap.get?_push_size _ rfl
  show wpAny _ _ _ _ _ { s with heap := ((s.heap.push (seqObj "list" #[] 0)).update s.heap.objs.size (Obj.mapSeq (· ++ vs.toArray))).push (seqObj "list" vs.toArray 0) }
  rw [e1]
  exact wpAny_bind (wpAny_holding (L _ _ _ e2 fun out p => wpAny_pure ⟨_, rfl, k out p⟩))
end
/-! the sorted ones, as functions -/
def srtI (b : Bool) (ns : List Int) : List Int := ns.mergeSort (PySem.W.dataLe b PyData.int)
def srtS (ss : List Str) : List Str := ss.mergeSort (PySem.W.dataLe false PyData.str)
section
variable {X : Cx}
theorem each_ints {h : Heap} {l : Addr} : ∀ {ns : List Int} {us : List Value}, Vals (ns.map V.int) us → PySem.W.EachIs (fun v i => ∃ t, v = Value.int i t) us ns ∧ PySem.W.EachIs (fun v i => ∃ as, Reads h v (PyData.int i) as ∧ ¬ l ∈ as) us ns
  | [], _, .nil => ⟨.nil, .nil⟩
  | n :: ns, _, .cons r t => by
    obtain ⟨k, rfl⟩ := r
    obtain ⟨a, b⟩ := each_ints t
    exact ⟨.cons ⟨k, rfl⟩ a, .cons ⟨[], .int n k, by simp⟩ b⟩
theorem each_strs {h : Heap} {l : Addr} : ∀ {ns : List Str} {us : List Value}, Vals (ns.map V.str) us → PySem.W.EachIs (fun v i => ∃ t, v = Value.str i t) us ns ∧ PySem.W.EachIs (fun v i => ∃ as, Reads h v (PyData.str i) as ∧ ¬ l ∈ as) us ns
  | [], _, .nil => ⟨.nil, .nil⟩
  | n :: ns, _, .cons r t => by
    obtain ⟨k, rfl⟩ := r
    obtain ⟨a, b⟩ := each_strs t
    exact ⟨.cons ⟨k, rfl⟩ a, .cons ⟨[], .str n k, by simp⟩ b⟩
theorem vals_eachI : ∀ {ns : List Int} {us : List Value}, PySem.W.EachIs (fun v i => ∃ t, v = Value.int i t) us ns → Vals (ns.map V.int) us
  | _, _, .nil => .nil
  | _, _, .cons r t => .cons r (vals_eachI t)
theorem vals_eachS : ∀ {ns : List Str} {us : List Value}, PySem.W.EachIs (fun v i => ∃ t, v = Value.str i t) us ns → Vals (ns.map V.str) us
  | _, _, .nil => .nil
  | _, _, .cons r t => .cons r (vals_eachS t)
theorem sortable_of {ds : List PyData} (h : ∀ d ∈ ds, d ≠ .none ∧ ∀ xs, d ≠ .tuple xs) : PySem.W.Sortable ds := .inr h
theorem seq_of {pins : List (Addr × Obj)} {σ : L2.St} {H : Hp} {s : Shared} {a : Addr} {xs : List V} (I : Inv X pins σ H s) (h : SqL X.K H a xs ∨ SqT X.K H a xs) : ∃ its : List Value, Vals xs its ∧ (s.heap.IsList a its.toArray ∨ IsTup s.heap a its.toArray) ∧ xs.length ≤ sizeLine := by
  rcases h with h | h
  · obtain ⟨its, r, p, z⟩ := I.list h
    exact ⟨its, r, .inl p.isList, z⟩
  · obtain ⟨its, r, p, z⟩ := I.tuple h
    exact ⟨its, r, .inr p, z⟩
theorem sort_laid {pins : List (Addr × Obj)} {σ : L2.St} {H : Hp} {s : Shared} {Q : VK} (I : Inv X pins σ H s) {vs out : List Value} {xs : List V} (r : Vals xs out) (hz : xs.length ≤ sizeLine) (q : ∀ p, H p = none → Q (.ref p) (upd H p (.lst xs))) :
    EP X pins σ Q (.ref (s.heap.objs.size + 1)) { s with heap := sortedAll s.heap vs out.toArray } := by
  obtain ⟨ep, he⟩ := sortedAll_at s.heap vs out.toArray
  exact ⟨.ref _, upd H (s.heap.objs.size + 1) (.lst xs), I.laid (t' := s.toks) (fun _ _ => sortedAll_old) (Nat.le_succ _) ⟨hz, out, ep, r, he⟩, rfl, q _ (I.hok.fresh (Nat.le_succ _))⟩
/-- sorted(xs), whole numbers -/
def rSrtI (K : PySem.W.Frag) : RC := fun xs H Q => ∃ a ns, xs = [.ref a] ∧ (SqL K H a (ns.map V.int) ∨ SqT K H a (ns.map V.int)) ∧ ∀ p, H p = none → Q (.ref p) (upd H p (.lst ((srtI false ns).map V.int)))
theorem cSrtI (hu : X.A.units + 64 < cLine) : CallR X (.builtin "sorted") (rSrtI X.K) := by
  intro pins s σ H xs us Q I r h
  obtain ⟨a, ns, rfl, hs, q⟩ := h
  obtain rfl := Vals.ref1 r
  obtain ⟨its, rv, hl, hz⟩ := seq_of I hs
  have hz2 : ns.length ≤ sizeLine := by rw [List.length_map] at hz; exact hz
  refine sortedC (P := fun out => PySem.W.EachIs (fun v i => ∃ t, v = Value.int i t) out (srtI false ns)) hl (by rw [← rv.length]; exact hz) (args_sorted1 _) (fun s' l R ho k => ?_) fun out p => ?_
  · obtain ⟨e1, e2⟩ := each_ints (h := s'.heap) (l := l) rv
    refine PySem.W.list_sort_data (enc := PyData.int) ho e1 e2 (fun d hd d' hd' => ?_) (sortable_of fun d hd => ?_) hz2 (fun b _ => ?_) fun out _ e => k out e
    · obtain ⟨i, _, rfl⟩ := List.mem_map.mp hd
      obtain ⟨j, _, rfl⟩ := List.mem_map.mp hd'
      rfl
    · obtain ⟨i, _, rfl⟩ := List.mem_map.mp hd
      exact ⟨(fun z => nomatch z), fun _ z => nomatch z⟩
    · show X.A.units + 1 + 1 + PyData.depth (.int b) < cLine
      simp only [PyData.depth]
      omega
  · exact sort_laid I (vals_eachI p) (by rw [List.length_map]; unfold srtI; rw [List.length_mergeSort]; exact hz2) q
/-- sorted(xs), texts -/
def rSrtS (K : PySem.W.Frag) : RC := fun xs H Q => ∃ a, ∃ ns : List Str, xs = [.ref a] ∧ (SqL K H a (ns.map V.str) ∨ SqT K H a (ns.map V.str)) ∧ ∀ p, H p = none → Q (.ref p) (upd H p (.lst ((srtS ns).map V.str)))
theorem cSrtS (hu : X.A.units + 64 < cLine) : CallR X (.builtin "sorted") (rSrtS X.K) := by
  intro pins s σ H xs us Q I r h
  obtain ⟨a, ns, rfl, hs, q⟩ := h
  obtain rfl := Vals.ref1 r
  obtain ⟨its, rv, hl, hz⟩ := seq_of I hs
  have hz2 : ns.length ≤ sizeLine := by rw [List.length_map] at hz; exact hz
  refine sortedC (P := fun out => PySem.W.EachIs (fun v i => ∃ t, v = Value.str i t) out (srtS ns)) hl (by rw [← rv.length]; exact hz) (args_sorted1 _) (fun s' l R ho k => ?_) fun out p => ?_
  · obtain ⟨e1, e2⟩ := each_strs (h := s'.heap) (l := l) rv
    refine PySem.W.list_sort_data (enc := PyData.str) ho e1 e2 (fun d hd d' hd' => ?_) (sortable_of fun d hd => ?_) hz2 (fun b _ => ?_) fun out _ e => k out e
    · obtain ⟨i, _, rfl⟩ := List.mem_map.mp hd
      obtain ⟨j, _, rfl⟩ := List.mem_map.mp hd'
      rfl
    · obtain ⟨i, _, rfl⟩ := List.mem_map.mp hd
      exact ⟨(fun z => nomatch z), fun _ z => nomatch z⟩
    · show X.A.units + 1 + 1 + PyData.depth (.str b) < cLine
      simp only [PyData.depth]
      omega
  · exact sort_laid I (vals_eachS p) (by rw [List.length_map]; unfold srtS; rw [List.length_mergeSort]; exact hz2) q
/-- sorted(xs, reverse=True), whole numbers -/
def rSrtR (K : PySem.W.Frag) : List V → List V → Hp → VK → Prop := fun xs zs H Q => ∃ a ns, xs = [.ref a] ∧ zs = [.bl true] ∧ (SqL K H a (ns.map V.int) ∨ SqT K H a (ns.map V.int)) ∧ ∀ p, H p = none → Q (.ref p) (upd H p (.lst ((srtI true ns).map V.int)))
theorem cSrtR (hu : X.A.units + 64 < cLine) : CallRK X (.builtin "sorted") [Str.ofString "reverse"] (rSrtR X.K) := by
  intro pins s σ H xs zs us ws Q I r rz h
  obtain ⟨a, ns, rfl, rfl, hs, q⟩ := h
  obtain rfl := Vals.ref1 r
  obtain ⟨w1, rfl, e1⟩ := vals1 rz
  obtain rfl : w1 = Value.bool true := e1
  obtain ⟨its, rv, hl, hz⟩ := seq_of I hs
  have hz2 : ns.length ≤ sizeLine := by rw [List.length_map] at hz; exact hz
  refine sortedC (P := fun out => PySem.W.EachIs (fun v i => ∃ t, v = Value.int i t) out (srtI true ns)) hl (by rw [← rv.length]; exact hz) (args_sorted_rev _ _) (fun s' l R ho k => ?_) fun out p => ?_
  · obtain ⟨e1, e2⟩ := each_ints (h := s'.heap) (l := l) rv
    refine PySem.W.list_sort_rev_data (enc := PyData.int) ho e1 e2 (fun d hd d' hd' => ?_) (sortable_of fun d hd => ?_) hz2 (fun b _ => ?_) fun out _ e => k out e
    · obtain ⟨i, _, rfl⟩ := List.mem_map.mp hd
      obtain ⟨j, _, rfl⟩ := List.mem_map.mp hd'
      rfl
    · obtain ⟨i, _, rfl⟩ := List.mem_map.mp hd
      exact ⟨(fun z => nomatch z), fun _ z => nomatch z⟩
    · show X.A.units + 1 + 1 + PyData.depth (.int b) < cLine
      simp only [PyData.depth]
      omega
  · exact sort_laid I (vals_eachI p) (by rw [List.length_map]; unfold srtI; rw [List.length_mergeSort]; exact hz2) q
/-! the three as expressions -/
theorem hu_r {k : Nat} {A : Around} (hr : Room k A) : A.units + 100 < cLine := by have := hr.un; omega
/-! ### a tuple's items, by data -/
def rInTD (K : PySem.W.Frag) : R2 := fun x y H Q => ∃ d ds, Dp K H x d ∧ Dp K H y (.tuple ds) ∧ SeqAt.shaped d = true ∧ SeqAt.shaped (.tuple ds) = true ∧ Q (.bl (ds.any fun z => PyData.eqv z d)) H
theorem op_inTD (hu : X.A.units + 65 < cLine) : OpR X (compareOp .In) (rInTD X.K) := by
  intro pins s σ H x y v u Q I rx ry h
  obtain ⟨d, ds, hd, he, sd, se, q⟩ := h
  obtain ⟨as, r1⟩ := Dp.reads I d x v hd rx
  obtain ⟨bs, r2⟩ := Dp.reads I (.tuple ds) y u he ry
  exact SeqAt.in_tuple_reads r2 r1 (SeqAt.canLay_of_shaped se) (SeqAt.canLay_of_shaped sd) (room_in_shaped sd hu) ⟨.bl _, H, I, rfl, q⟩
/-! ### str(o), o an instance with its own __str__ -/
variable {k : Nat} {f C : Addr} {ps : List Str} {sp : Sp}
def rStrO (C : Addr) (sp : Sp) : RC := fun vs H Q => ∃ a dx fs, vs = [.ref a] ∧ H a = some (.ins C dx fs) ∧ sp vs H (fun v H2 => (∃ z : Str, v = .str z) ∧ Q v H2) E0
theorem cStrO (hm : Meth X.K C "__str__" f) (F : FnE X.prog X.w X.K X.mg X.base k f ps [] sp) (hr : Room (k + 2) X.A) : CallR X (.type "str") (rStrO C sp) := by
  obtain ⟨⟨fd, ds, a, b, c2⟩, kp⟩ := F
  cases c2
  intro pins s σ H xs us Q I r h
  obtain ⟨x, dx, fs, rfl, hx, q⟩ := h
  obtain rfl := Vals.ref1 r
  obtain ⟨mA, O, _⟩ := ins_get I.hok hx
  obtain ⟨od, J, _⟩ := O.look
  refine PySem.W.kso_call (by have := hr.un; show X.A.units + 1 + 1 < cLine; omega) I.kIn J hm.at_ hm.fn ?_
  have hl : ([Value.ref x] ++ []).length = ps.length := by
    have z := a.len _ _ _ _ q
    exact z
  refine wpAny_call (codeAny_mono (a.run X.A.in1.in1 X.stack s H ⟨[.ref x], []⟩ [.ref x] [.ref x] _ E0 hr.in1.in1 I.env0.in1.in1 (by have z := b s [.ref x] I.kIn hl; rw [List.append_nil] at z; exact z) r q) fun res s' hq => ?_)
  cases res with
  | error e => exact False.elim hq
  | ok fl =>
    cases fl with
    | ret u =>
      obtain ⟨v, H', I', rv, ⟨⟨z, rfl⟩, q2⟩⟩ := I.after hq
      obtain ⟨t, rfl⟩ := rv
      exact ⟨.str z, H', I', ⟨t, rfl⟩, q2⟩
    | next => exact False.elim hq
    | brk => exact False.elim hq
    | cont => exact False.elim hq
end
end BX
namespace BX
open PySem PySem.Spec PyProof.Rows L2
/-! ### set(xs) of unlike texts -/
section
variable {P : Program} {w : World} {A : Around} {E : Value → Shared → Prop}
theorem setTexts {I : Addr} {fp wr : List Addr} {G : Array GenState → Array GenState → Prop} {n : Nat} {Pv : Nat → Value → Prop} {St : Nat → Shared → Prop} {R : Result → Shared → Prop}
    (W : WalksS P w A.in1 I fp wr G n Pv St) (S : Addr) (off : S ∉ fp) (xs : List Str) (nd : xs.Nodup) (hn : n = xs.length) (few : xs.length + 1 < scanBound) (each : ∀ i v, Pv i v → ∃ x t, xs[i]? = some x ∧ v = .str x t) :
    ∀ (m i : Nat) (s : Shared), n - i = m → i ≤ n → St i s → s.heap.SetOf (PySem.strKind P w) S (fun j => decide (j ∈ xs.take i)) i →
      (∀ s', Moved (S :: wr) G s s' → s'.heap.SetOf (PySem.strKind P w) S (fun j => decide (j ∈ xs)) n → R (.ok (.ret .none)) s') → codeAny (model P w) A (.builtin "set.update.loop" ⟨[.ref S, .ref I], []⟩) R s := by
  have out : S ∉ wr := fun h => off (W.sub _ h)
  have carry : ∀ {i : Nat} {s s' : Shared}, s.heap.SetOf (PySem.strKind P w) S (fun j => decide (j ∈ xs.take i)) i → Moved wr G s s' → s'.heap.SetOf (PySem.strKind P w) S (fun j => decide (j ∈ xs.take i)) i := fun ⟨o, es, ep, tb, ho, more⟩ hm => ⟨o, es, ep, tb, hm.heap S o out ho, more⟩
  intro m
  induction m with
  | zero =>
    intro i s hm hi hst hS hR
    obtain rfl : i = n := by omega
    refine codeAny_builtin F.entry_set_update_loop ?_
    rw [Around.under_plainId F.plain_set_update_loop _]
    refine wpAny_bind (m := pyNext (.ref I)) (W.done s _ _ hst fun s' hmv => wpAny_pure (hR s' (hmv.mono fun b hb => List.mem_cons_of_mem _ hb) ?_))
    have z := carry hS hmv
    rw [List.take_of_length_le (by omega : xs.length ≤ i)] at z
    exact z
  | succ m ih =>
    intro i s hm hi hst hS hR
    have lt : i < n := by omega
    refine codeAny_builtin F.entry_set_update_loop ?_
    rw [Around.under_plainId F.plain_set_update_loop _]
    refine wpAny_bind (m := pyNext (.ref I)) (W.item i s _ _ lt hst fun v s' hP hst' hmv => ?_)
    obtain ⟨x, t, hx, rfl⟩ := each i v hP
    have hS' := carry hS hmv
    have fresh : ¬ x ∈ xs.take i := fun hmem => by
      obtain ⟨j, hj⟩ := List.mem_iff_getElem?.mp hmem
      rw [List.getElem?_take] at hj
      by_cases hji : j < i
      · rw [if_pos hji] at hj
        obtain ⟨a1, a2⟩ := List.getElem?_eq_some_iff.mp hj
        obtain ⟨b1, b2⟩ := List.getElem?_eq_some_iff.mp hx
        exact absurd (a2.trans b2.symm) (List.pairwise_iff_getElem.mp nd j i a1 b1 hji)
      · rw [if_neg hji] at hj
        cases hj
    refine wpAny_bind (m := holding [Value.str x t] (setAdd S (.str x t))) (wpAny_holding ?_)
    unfold setAdd
    refine wpAny_holding (wpAny_bind ((PySem.strKind P w).pyHash (k := x) (strKind_is _ _ _ _) ?_))
    refine wpAny_setAddHashed_of (knd := PySem.strKind P w) (s := { s' with toks := s'.toks + 1 }) (strKind_is _ _ _ _) rfl hS' (by omega) fun h' but hS2 => ?_
    have hS3 : h'.SetOf (PySem.strKind P w) S (fun j => decide (j ∈ xs.take (i + 1))) (i + 1) := by
      refine SetOf_congr hS2 (fun j => ?_) ?_
      · rw [List.take_add_one, hx]
        simp [List.mem_append]
      · simp [fresh]
    refine wpAny_pure ⟨plainId_quiet F.plain_set_update_loop _, ih (i + 1) _ (by omega) lt (W.frame _ s' _ _ hst' (Nat.le_succ _) fun b hb o e => ?_) hS3 fun s2 hmv2 hS4 => ?_⟩
    · rw [but.2 b fun z => off (z ▸ hb)]
      exact e
    · refine hR s2 (Moved.trans W.gtrans ((hmv.mono fun b hb => List.mem_cons_of_mem _ hb).then_heap (Nat.le_succ _) fun b o hb e => ?_) hmv2) hS4
      rw [but.2 b fun z => hb (z ▸ List.mem_cons_self)]
      exact e
set_option maxHeartbeats 8000000 in
theorem setOf_list {l : Addr} {items : Array Value} {xs : List Str} {s : Shared} {Q : Value → Shared → Prop} (calm : A.handled = none) (hl : s.heap.IsList l items) (hi : StrsAre items.toList xs) (nd : xs.Nodup) (few : xs.length + 1 < scanBound)
    (k : ∀ (h' : Heap) (tk : Nat), h'.SetOf (PySem.strKind P w) s.heap.objs.size (fun j => decide (j ∈ xs)) xs.length → (∀ b o, s.heap.get? b = some o → h'.get? b = some o) → Q (.ref s.heap.objs.size) { s with heap := h', toks := tk }) :
    wpAny (model P w) A (call (.type "set") [.ref l]) Q E s := by
  have esz : items.size = xs.length := by have q := StrsAre.len_eq hi; rw [Array.length_toList] at q; exact q
  obtain ⟨cc, tl, hmro⟩ := PySem.F.called_set.mro
  have f0 := PySem.F.called_set.made
  have f1 := PySem.F.called_set.sub
  refine wpAny_call (codeAny_of_tree (show wpAny _ _ (callAny (.type "set") _) _ _ _ from ?_))
  refine (wpAny_pure ⟨Code.quiet_builtin _ (by decide +kernel), codeAny_builtin PySem.F.entry_type_call ?_⟩)
  rw [Around.under_plain (weight_type_call_type "set" [.ref l] []) rfl]
  have f2 := PySem.F.called_set.notType
  have f3 := PySem.F.called_set.canCreate
  have f4 := PySem.F.typeCall_set_1 (.ref l)
  repeat (any_goals (first | assumption | wp_step))
  refine codeAny_mono (code_set_new_1 (.ref l) (E := E) (Q₁ := fun made s1 => ∃ led : Bool, made = .ref s.heap.objs.size ∧ s1 = { s with heap := s.heap.push { cls := .type "set", dict := none, data := .set #[] 0 (.fresh 0 0 led) } }) fun led => ⟨led, rfl, rfl⟩) fun r s1 hr => ?_
  cases r with
  | error e => exact hr
  | ok fl =>
    cases fl with
    | next => exact hr.elim
    | brk => exact hr.elim
    | cont => exact hr.elim
    | ret made =>
      obtain ⟨led, rfl, rfl⟩ := hr
      have at0 : (s.heap.push { cls := .type "set", dict := none, data := .set #[] 0 (.fresh 0 0 led) }).get? s.heap.objs.size = some { cls := .type "set", dict := none, data := .set #[] 0 (.fresh 0 0 led) } := Heap.get?_push_size _ rfl
      have ty0 : Shared.TypeIs { s with heap := s.heap.push { cls := .type "set", dict := none, data := .set #[] 0 (.fresh 0 0 led) } } (.ref s.heap.objs.size) "set" := ⟨_, at0, rfl⟩
      have g1 := PySem.F.called_set.init.lookup
      have g2 := PySem.F.called_set.init.bind (.ref s.heap.objs.size)
      repeat (any_goals (first | assumption | wp_step))
      refine codeAny_mono (codeAny_call_builtin (R := wants (fun r s2 => r = .none ∧ ∃ h' tk, s2 = { s with heap := h', toks := tk } ∧ h'.SetOf (PySem.strKind P w) s.heap.objs.size (fun j => decide (j ∈ xs)) xs.length ∧ (∀ b o, s.heap.get? b = some o → h'.get? b = some o)) E)
        PySem.F.called_set.init.plain PySem.F.entry_set_init (check_set_init_1 ty0 ?_)) fun r2 s2 hr2 => ?_
      · obtain ⟨ol, hol, hcl, nl, hdl⟩ := hl
        obtain ⟨oc, od, oda, osl⟩ := ol
        simp only at hcl hdl
        subst hcl hdl
        have at1 : (s.heap.push { cls := .type "set", dict := none, data := .set #[] 0 (.fresh 0 0 led) }).get? l = some { cls := .type "list", dict := od, data := .seq items nl, slots := osl } := Heap.get?_push_of_some _ hol
        have k1 := PySem.F.sub_list_set
        have k2 := PySem.F.sub_list_frozenset
        have k3 : (Value.type "list" == Value.type "dict") = false := by decide
        have is1 : (s.heap.push { cls := .type "set", dict := none, data := .set #[] 0 (.fresh 0 0 led) }).IsList l items := ⟨_, at1, rfl, nl, rfl⟩
        unfold Builtin.«set.__init__» noKeywords Builtin.Frozenset.updateFrom
        generalize ePI : pyIter = PI
        wp_walk
        subst ePI
        refine wpAny_pyIter_list is1 (wpAny_bind (wpAny_runValue ?_))
        have lt : l < s.heap.objs.size := Heap.lt_size hol
        have n1 : l ≠ (s.heap.push { cls := .type "set", dict := none, data := .set #[] 0 (.fresh 0 0 led) }).objs.size := by
          rw [Heap.size_push]
          exact Nat.ne_of_lt (Nat.lt_succ_of_lt lt)
        have n2 : s.heap.objs.size ∉ [(s.heap.push { cls := .type "set", dict := none, data := .set #[] 0 (.fresh 0 0 led) }).objs.size, l] := by
          rw [Heap.size_push]
          simp only [List.mem_cons, List.not_mem_nil, or_false, not_or]
          exact ⟨Nat.ne_of_lt (Nat.lt_succ_self _), Nat.ne_of_gt lt⟩
        refine setTexts ((Walks.list (by simp [calm]) _ l n1 items).toS) s.heap.objs.size n2 xs nd esz few (fun i v hv => ?_) (items.size - 0) 0 _ (by omega) (Nat.zero_le _) ⟨⟨_, Heap.get?_push_size _ rfl, rfl, rfl⟩, (is1.push _)⟩ ?_ fun s3 mv S3 => ?_
        · obtain ⟨t, et⟩ := SS.strs_at hi i v (by rw [Array.getElem?_toList]; exact hv)
          have hlt : i < xs.length := by
            rw [← esz]
            exact (Array.getElem?_eq_some_iff.mp hv).1
          refine ⟨xs[i], t, by simp [hlt], ?_⟩
          rw [et, List.getD_eq_getElem?_getD, List.getElem?_eq_getElem hlt] <;> rfl
        · have at2 : ((s.heap.push { cls := .type "set", dict := none, data := .set #[] 0 (.fresh 0 0 led) }).push { cls := .type "list_iterator", data := .fields #[.ref l, .int 0 0] }).get? s.heap.objs.size = some { cls := .type "set", dict := none, data := .set #[] 0 (.fresh 0 0 led) } := Heap.get?_push_of_some _ at0
          exact SetOf_congr ((PyProof.Rows.setObjOf_fresh (knd := PySem.strKind P w) led).setOf at2 (by unfold scanBound; omega)) (fun _ => by simp) rfl
        · obtain ⟨h3, g3, d3, tk3, os3⟩ := s3
          obtain rfl : g3 = s.gens := mv.gens
          obtain rfl : d3 = s.drawn := mv.drawn
          obtain rfl : os3 = s.os := mv.os
          refine wpAny_pure (wpAny_pure ⟨rfl, h3, tk3, rfl, esz ▸ S3, fun b o e => ?_⟩)
          refine mv.heap b o ?_ (Heap.get?_push_of_some _ (Heap.get?_push_of_some _ e))
          have hb := Heap.lt_size e
          rw [Heap.size_push]
          simp only [List.mem_cons, List.not_mem_nil, or_false, not_or]
          exact ⟨Nat.ne_of_lt hb, Nat.ne_of_lt (Nat.lt_succ_of_lt hb)⟩
      · cases r2 with
        | error e => exact hr2
        | ok f2 =>
          cases f2 with
          | next => exact hr2.elim
          | brk => exact hr2.elim
          | cont => exact hr2.elim
          | ret u =>
            obtain ⟨rfl, h', tk, rfl, S', k'⟩ := hr2
            repeat (any_goals (first | assumption | wp_step))
            exact k _ _ S' k'
set_option maxHeartbeats 8000000 in
theorem setOf_tuple {l : Addr} {items : Array Value} {xs : List Str} {s : Shared} {Q : Value → Shared → Prop} (calm : A.handled = none) (hl : s.heap.IsTuple l items) (hi : StrsAre items.toList xs) (nd : xs.Nodup) (few : xs.length + 1 < scanBound)
    (k : ∀ (h' : Heap) (tk : Nat), h'.SetOf (PySem.strKind P w) s.heap.objs.size (fun j => decide (j ∈ xs)) xs.length → (∀ b o, s.heap.get? b = some o → h'.get? b = some o) → Q (.ref s.heap.objs.size) { s with heap := h', toks := tk }) :
    wpAny (model P w) A (call (.type "set") [.ref l]) Q E s := by
  have esz : items.size = xs.length := by have q := StrsAre.len_eq hi; rw [Array.length_toList] at q; exact q
  obtain ⟨cc, tl, hmro⟩ := PySem.F.called_set.mro
  have f0 := PySem.F.called_set.made
  have f1 := PySem.F.called_set.sub
  refine wpAny_call (codeAny_of_tree (show wpAny _ _ (callAny (.type "set") _) _ _ _ from ?_))
  refine (wpAny_pure ⟨Code.quiet_builtin _ (by decide +kernel), codeAny_builtin PySem.F.entry_type_call ?_⟩)
  rw [Around.under_plain (weight_type_call_type "set" [.ref l] []) rfl]
  have f2 := PySem.F.called_set.notType
  have f3 := PySem.F.called_set.canCreate
  have f4 := PySem.F.typeCall_set_1 (.ref l)
  repeat (any_goals (first | assumption | wp_step))
  refine codeAny_mono (code_set_new_1 (.ref l) (E := E) (Q₁ := fun made s1 => ∃ led : Bool, made = .ref s.heap.objs.size ∧ s1 = { s with heap := s.heap.push { cls := .type "set", dict := none, data := .set #[] 0 (.fresh 0 0 led) } }) fun led => ⟨led, rfl, rfl⟩) fun r s1 hr => ?_
  cases r with
  | error e => exact hr
  | ok fl =>
    cases fl with
    | next => exact hr.elim
    | brk => exact hr.elim
    | cont => exact hr.elim
    | ret made =>
      obtain ⟨led, rfl, rfl⟩ := hr
      have at0 : (s.heap.push { cls := .type "set", dict := none, data := .set #[] 0 (.fresh 0 0 led) }).get? s.heap.objs.size = some { cls := .type "set", dict := none, data := .set #[] 0 (.fresh 0 0 led) } := Heap.get?_push_size _ rfl
      have ty0 : Shared.TypeIs { s with heap := s.heap.push { cls := .type "set", dict := none, data := .set #[] 0 (.fresh 0 0 led) } } (.ref s.heap.objs.size) "set" := ⟨_, at0, rfl⟩
      have g1 := PySem.F.called_set.init.lookup
      have g2 := PySem.F.called_set.init.bind (.ref s.heap.objs.size)
      repeat (any_goals (first | assumption | wp_step))
      refine codeAny_mono (codeAny_call_builtin (R := wants (fun r s2 => r = .none ∧ ∃ h' tk, s2 = { s with heap := h', toks := tk } ∧ h'.SetOf (PySem.strKind P w) s.heap.objs.size (fun j => decide (j ∈ xs)) xs.length ∧ (∀ b o, s.heap.get? b = some o → h'.get? b = some o)) E)
        PySem.F.called_set.init.plain PySem.F.entry_set_init (check_set_init_1 ty0 ?_)) fun r2 s2 hr2 => ?_
      · obtain ⟨ol, hol, hcl, nl, hdl⟩ := hl
        obtain ⟨oc, od, oda, osl⟩ := ol
        simp only at hcl hdl
        subst hcl hdl
        have at1 : (s.heap.push { cls := .type "set", dict := none, data := .set #[] 0 (.fresh 0 0 led) }).get? l = some { cls := .type "tuple", dict := od, data := .seq items nl, slots := osl } := Heap.get?_push_of_some _ hol
        have k1 := PySem.F.sub_tuple_set
        have k2 := PySem.F.sub_tuple_frozenset
        have k3 : (Value.type "tuple" == Value.type "dict") = false := by decide
        have is1 : (s.heap.push { cls := .type "set", dict := none, data := .set #[] 0 (.fresh 0 0 led) }).IsTuple l items := ⟨_, at1, rfl, nl, rfl⟩
        unfold Builtin.«set.__init__» noKeywords Builtin.Frozenset.updateFrom
        generalize ePI : pyIter = PI
        wp_walk
        subst ePI
        refine wpAny_pyIter_tuple is1 (wpAny_bind (wpAny_runValue ?_))
        have lt : l < s.heap.objs.size := Heap.lt_size hol
        have n1 : l ≠ (s.heap.push { cls := .type "set", dict := none, data := .set #[] 0 (.fresh 0 0 led) }).objs.size := by
          rw [Heap.size_push]
          exact Nat.ne_of_lt (Nat.lt_succ_of_lt lt)
        have n2 : s.heap.objs.size ∉ [(s.heap.push { cls := .type "set", dict := none, data := .set #[] 0 (.fresh 0 0 led) }).objs.size, l] := by
          rw [Heap.size_push]
          simp only [List.mem_cons, List.not_mem_nil, or_false, not_or]
          exact ⟨Nat.ne_of_lt (Nat.lt_succ_self _), Nat.ne_of_gt lt⟩
        refine setTexts ((Walks.tuple (by simp [calm]) _ l n1 items).toS) s.heap.objs.size n2 xs nd esz few (fun i v hv => ?_) (items.size - 0) 0 _ (by omega) (Nat.zero_le _) ⟨⟨_, Heap.get?_push_size _ rfl, rfl, rfl⟩, (is1.push _)⟩ ?_ fun s3 mv S3 => ?_
        · obtain ⟨t, et⟩ := SS.strs_at hi i v (by rw [Array.getElem?_toList]; exact hv)
          have hlt : i < xs.length := by
            rw [← esz]
            exact (Array.getElem?_eq_some_iff.mp hv).1
          refine ⟨xs[i], t, by simp [hlt], ?_⟩
          rw [et, List.getD_eq_getElem?_getD, List.getElem?_eq_getElem hlt] <;> rfl
        · have at2 : ((s.heap.push { cls := .type "set", dict := none, data := .set #[] 0 (.fresh 0 0 led) }).push { cls := .type "tuple_iterator", data := .fields #[.ref l, .int 0 0] }).get? s.heap.objs.size = some { cls := .type "set", dict := none, data := .set #[] 0 (.fresh 0 0 led) } := Heap.get?_push_of_some _ at0
          exact SetOf_congr ((PyProof.Rows.setObjOf_fresh (knd := PySem.strKind P w) led).setOf at2 (by unfold scanBound; omega)) (fun _ => by simp) rfl
        · obtain ⟨h3, g3, d3, tk3, os3⟩ := s3
          obtain rfl : g3 = s.gens := mv.gens
          obtain rfl : d3 = s.drawn := mv.drawn
          obtain rfl : os3 = s.os := mv.os
          refine wpAny_pure (wpAny_pure ⟨rfl, h3, tk3, rfl, esz ▸ S3, fun b o e => ?_⟩)
          refine mv.heap b o ?_ (Heap.get?_push_of_some _ (Heap.get?_push_of_some _ e))
          have hb := Heap.lt_size e
          rw [Heap.size_push]
          simp only [List.mem_cons, List.not_mem_nil, or_false, not_or]
          exact ⟨Nat.ne_of_lt hb, Nat.ne_of_lt (Nat.lt_succ_of_lt hb)⟩
      · cases r2 with
        | error e => exact hr2
        | ok f2 =>
          cases f2 with
          | next => exact hr2.elim
          | brk => exact hr2.elim
          | cont => exact hr2.elim
          | ret u =>
            obtain ⟨rfl, h', tk, rfl, S', k'⟩ := hr2
            repeat (any_goals (first | assumption | wp_step))
            exact k _ _ S' k'
end
section
variable {X : Cx} {e : Expr} {ta : TE} {p p2 q pos : Pos}
/-- len(set(xs)), xs unlike texts -/
def tLenSetS (K : PySem.W.Frag) (ta : TE) : TE := fun σ H Q => ta σ H fun x H1 => ∃ l, ∃ xs : List Str, x = .ref l ∧ (SqL K H1 l (xs.map V.str) ∨ SqT K H1 l (xs.map V.str)) ∧ xs.Nodup ∧ xs.length ≤ 4000 ∧ Q (.int (xs.length : Nat)) H1
theorem plenset (z1 : X.mg "len" = none) (z2 : X.mg "set" = none) (he : PE X e ta) (hc : X.calm = true := by rfl) (hg : Gl X "len" := by rfl) (hg2 : Gl X "set" := by rfl)
    (na : starEach [e] X.env = (false, eval e X.env) :: starEach [] X.env := by rfl) : PE X (.Call (.Name "len" p) [.Call (.Name "set" p2) [e] [] q] [] pos) (tLenSetS X.K ta) := by
  refine ⟨fun pins s σ H Q I h => Call_ (ld_blt I hg z1 boot_len (PyProof.Rows.callWith_builtin1 (PyProof.Rows.args_cons (Call_ (ld_blt I hg2 z2 boot_set (PyProof.Rows.callWith_type1 (PyProof.Rows.args_cons (thn (he.run pins s σ H _ I h) fun v s1 ⟨x, H1, I1, r1, q1⟩ => PyProof.Rows.args_nil ?_) na) na rfl))) rfl) rfl rfl))⟩
  obtain ⟨l, xs, rfl, hq, nd, hl, q1⟩ := q1
  cases r1
  have fin : ∀ (h' : Heap) (tk : Nat), h'.SetOf (PySem.strKind X.prog X.w) s1.heap.objs.size (fun j => decide (j ∈ xs)) xs.length → (∀ b o, s1.heap.get? b = some o → h'.get? b = some o) →
      wpAny (model X.prog X.w) X.A (spliced (backTo pos (starEach [] X.env))) (fun vs s2 => wpAny (model X.prog X.w) X.A (call (.builtin "len") (Value.ref s1.heap.objs.size :: vs)) (EP X pins σ Q) X.xe s2) X.xe { s1 with heap := h', toks := tk } := fun h' tk hS hk => by
    refine PyProof.Rows.args_nil ?_
    obtain ⟨o, es, ep, t, ho, hex, hd, _, _, _, hf, hn⟩ := hS
    have I2 : Inv X pins σ H1 { s1 with heap := h', toks := tk } := I1.kept hk
    exact call_len_set ho hex hd hf (by rw [hn] <;> omega) ⟨.int xs.length, H1, I2.tok _, ⟨_, by rw [hn]⟩, q1⟩
  rcases hq with hq | hq
  · obtain ⟨its, r, pl, hz⟩ := I1.list hq
    exact setOf_list (I1.ok.hd hc) pl.isList (by simpa using strsAre_of r) nd (by unfold scanBound; omega) fin
  · obtain ⟨its, r, pl, hz⟩ := I1.tuple hq
    exact setOf_tuple (I1.ok.hd hc) pl (by simpa using strsAre_of r) nd (by unfold scanBound; omega) fin
end
end BX
/-! walks that give new pairs: enumerate of a tuple, zip of a list and a tuple, the items of a dict with tuple keys -/
namespace BX
open PySem PySem.Spec PyProof.Rows L2
section
variable {X : Cx} {pins : List (Addr × Obj)} {σ : L2.St} {H : Hp} {s : Shared}
theorem gave {h' : Heap} {tk : Nat} {ch : List Addr} {T : Addr} {vals : List Value} {xs : List V} (I : Inv X pins σ H s) (hf : ∀ b ∈ ch, FpOk X pins H b) (hT : s.heap.objs.size ≤ T) (ht : h'.IsTuple T vals.toArray) (rv : Vals xs vals) (hz : xs.length ≤ sizeLine)
    (k : ∀ b o, b ∉ ch → s.heap.get? b = some o → h'.get? b = some o) : Inv X pins σ (upd H T (.tup xs)) { s with heap := h', toks := tk } ∧ H T = none :=
  ⟨I.turnedNew (t' := tk) k hf hT ⟨hz, vals, rv, ht⟩, I.hok.fresh hT⟩
theorem turned2 {h' : Heap} {tk : Nat} {ch : List Addr} (I : Inv X pins σ H s) (hf : ∀ b ∈ ch, FpOk X pins H b) (k : ∀ b o, b ∉ ch → s.heap.get? b = some o → h'.get? b = some o) : Inv X pins σ H { s with heap := h', toks := tk } := by
  have nit : ∀ b u, H b = some u → b ∉ ch := fun b u e z => by
    have q := (hf b z).1
    rw [q] at e
    cases e
  refine I.step (g' := s.gens) (d' := s.drawn) (ch := ch) (fun b hb => ⟨(hf b hb).2.2.2.1, (hf b hb).2.1, (hf b hb).2.2.2.2.1, (hf b hb).2.2.2.2.2⟩) (fun b o _ _ c e _ => k b o c e) (fun b o _ _ c e _ => ⟨o.slots, k b o c e⟩) (fun _ _ _ _ q => q)
    (fun b o c e => ⟨o, k b o c e⟩) (fun _ _ q => q) (fun _ _ _ q => q) (fun b ps q => ⟨#[], by rw [q]; simp⟩) (fun m hm => ?_) (fun b u e => ?_) I.bare
  · obtain ⟨o, es, ep, ho, r⟩ := hm
    exact ⟨o, es, ep, k _ o (fun z => (hf _ z).2.1 rfl) ho, r⟩
  · refine (I.hok b u e).stay (fun c v hc q => k c v ?_ q) (fun _ q => q) fun _ _ q => q
    rcases hc with z | z
    · rw [z]
      exact nit b u e
    · exact nit c _ z
theorem apart_of {a b : Addr} {h : Heap} {o u : Obj} (h1 : h.get? a = some o) (h2 : h.get? b = some u) (hc : o.cls ≠ u.cls) : a ≠ b := fun e => by
  rw [e, h2] at h1
  exact hc (congrArg Obj.cls (Option.some.inj h1).symm)
end
theorem nty {a b : String} (h : a ≠ b) : Value.type a ≠ Value.type b := fun z => h (Value.type.inj z)
/-! ### enumerate(t), t a tuple -/
def IteT (K : PySem.W.Frag) (a : Addr) : It :=
  ⟨fun i H => ∃ (xs : List V) (x : V), SqT K H a xs ∧ xs[i]? = some x, fun i H v H' => ∃ T x, v = .ref T ∧ H T = none ∧ H' = upd H T (.tup [.int (i : Nat), x]) ∧ ∀ xs, SqT K H a xs → xs[i]? = some x, fun i H => ∃ xs : List V, SqT K H a xs ∧ xs.length = i⟩
theorem tup_cls {h : Heap} {t : Addr} {items : Array Value} (p : IsTup h t items) : ∃ o, h.get? t = some o ∧ o.cls = .type "tuple" := let ⟨o, a, b, _⟩ := p; ⟨o, a, b⟩
theorem turn_enumT {P : Program} {w : World} {K : PySem.W.Frag} {elts : List Expr} {kk : Nat} {tpos : Pos} (a e it : Addr) :
    Turn P w K (.Tuple elts kk tpos) (IteT K a) [e, it] e (fun i h => (∃ old, IsEnum h e it ((0 : Int) + ((i : Nat) : Int)) old) ∧ h.IsTupleIter it a i ∧ e ≠ it) where
  mem := by simp
  obj := fun i h st b hb => by
    obtain ⟨⟨old, he⟩, ⟨o, ho, hc, hd⟩, _⟩ := st
    rcases (show b = e ∨ b = it by simpa using hb) with rfl | rfl
    · exact ⟨_, he, fun v q => nomatch q⟩
    · exact ⟨o, ho, fun v q => by rw [hd] at q; cases q⟩
  keep := fun i h h' st k => let ⟨⟨old, he⟩, hi, ne⟩ := st; ⟨⟨old, k e (by simp) _ he⟩, hi.at fun o q => k it (by simp) o q, ne⟩
  item := by
    intro X hP hw hK hc i pins s σ H E I hf st hg
    subst hP hw hK
    obtain ⟨⟨old, he⟩, hit, ne⟩ := st
    obtain ⟨xs, x, hq, hx⟩ := hg
    obtain ⟨its, rv, p, hz⟩ := I.tuple hq
    obtain ⟨u, hu, ru⟩ := rv.get hx
    obtain ⟨ot, hot, hct⟩ := tup_cls p
    have n1 : a ≠ e := apart_of hot he (by rw [hct]; exact nty (by decide))
    have n2 : a ≠ it := by
      obtain ⟨oi, hoi, hci, _⟩ := hit
      exact apart_of hot hoi (by rw [hct, hci]; exact nty (by decide))
    have hi : i < its.toArray.size := by
      rw [List.size_toArray, ← rv.length]
      exact (List.getElem?_eq_some_iff.mp hx).1
    refine (GoesN.enumFrom (prog := X.prog) (w := X.w) (A := X.A) (elts := elts) (x1 := kk) (pos := tpos) 0 (Draws.tuple (A := X.A.in1) (I.ok.hd hc) it a n2 its.toArray) e ne (by simp [ne, Ne.symm n1]) (by simp)).goes i s _ E hi ⟨⟨old, he⟩, hit, p⟩ fun v h' tk hY st' hk htk => ?_
    obtain ⟨T, t, y, rfl, hn, hy, hT⟩ := hY
    have ey : y = u := by
      have q : its.toArray[i]? = some u := by simpa using hu
      rw [q] at hy
      exact (Option.some.inj hy).symm
    subst ey
    obtain ⟨I2, h0⟩ := gave (tk := tk) (xs := [.int (i : Nat), x]) (vals := [.int ((0 : Int) + (i : Int)) t, y]) I (ch := [e, it]) hf hn hT (.cons ⟨t, by rw [Int.zero_add]⟩ (.cons ru .nil)) (by show 2 ≤ sizeLine; decide) hk
    obtain ⟨s1, s2, _⟩ := st'
    refine ⟨.ref T, _, I2, rfl, ⟨T, x, rfl, h0, rfl, fun ys hy => by rw [I.tuple_inj hy hq]; exact hx⟩, ⟨s1, s2, ne⟩, fun b hb => ?_⟩
    have hb0 := (hf b hb).1
    have hbT : b ≠ T := fun z => by
      have q : ∃ o, s.heap.get? b = some o := by
        rcases (show b = e ∨ b = it by simpa using hb) with rfl | rfl
        · exact ⟨_, he⟩
        · obtain ⟨o, ho, _⟩ := hit
          exact ⟨o, ho⟩
      obtain ⟨o, ho⟩ := q
      have lt := Heap.lt_size ho
      rw [z] at lt
      exact absurd (Nat.lt_of_lt_of_le lt hn) (Nat.lt_irrefl _)
    rw [upd_ne hbT]
    exact hb0
  done := by
    intro X hP hw hK hc i pins s σ H E I hf st hg
    subst hP hw hK
    obtain ⟨⟨old, he⟩, hit, ne⟩ := st
    obtain ⟨xs, hq, hx⟩ := hg
    obtain ⟨its, rv, p, hz⟩ := I.tuple hq
    obtain ⟨ot, hot, hct⟩ := tup_cls p
    have n1 : a ≠ e := apart_of hot he (by rw [hct]; exact nty (by decide))
    have n2 : a ≠ it := by
      obtain ⟨oi, hoi, hci, _⟩ := hit
      exact apart_of hot hoi (by rw [hct, hci]; exact nty (by decide))
    have hi : its.toArray.size = i := by rw [List.size_toArray, ← rv.length, hx]
    subst hi
    exact (GoesN.enumFrom (prog := X.prog) (w := X.w) (A := X.A) (elts := elts) (x1 := kk) (pos := tpos) 0 (Draws.tuple (A := X.A.in1) (I.ok.hd hc) it a n2 its.toArray) e ne (by simp [ne, Ne.symm n1]) (by simp)).stops s _ E ⟨⟨old, he⟩, hit, p⟩ fun h' tk hk _ =>
      turned2 I (ch := [e, it]) hf hk
  self := fun A i s Q E st h => let ⟨⟨_, he⟩, _⟩ := st; wpAny_pyIter_enum he h
def iEnumT (K : PySem.W.Frag) (ta : TA) : TI := fun σ H R => ta σ H fun vs H1 => ∃ a xs, vs = [.ref a] ∧ SqT K H1 a xs ∧ R (IteT K a) H1
theorem begun {v : Value} {o : Obj} {H : Heap → Prop} (B : Begins v o H) :
    Meets (Builtin.«enumerate.__new__» ⟨[.type "enumerate", v], []⟩) (fun _ R s => H s.heap ∧
      R (.ok (.ret (.ref (s.heap.push o).objs.size))) { s with heap := (s.heap.push o).push { cls := .type "enumerate", data := .fields #[.none, .bool false, .ref s.heap.objs.size, rawInt 0, .none, .none] } }) := by
  refine .of_wp fun prog w A R s h => ?_
  obtain ⟨hp, g, d, tk, os⟩ := s
  obtain ⟨h1, h2⟩ := h
  have k1 := sub_enumerate
  have k2 : ∀ {A' : Around} {E' Q' : Value → Shared → Prop}, Q' (.ref hp.objs.size) ⟨hp.push o, g, d, tk, os⟩ → wpAny (model prog w) A' (pyIter v) Q' E' ⟨hp, g, d, tk, os⟩ := fun q => B.iter prog w _ _ ⟨hp, g, d, tk, os⟩ _ h1 q
  wp_walk using k2
  refine (wpAny_stack_any fun st => wpAny_pure ?_)
  split
  · rename_i c _ _ _ _ _
    cases (c == Value.type "enumerate") <;> (wp_walk using k2; exact ⟨_, rfl, h2⟩)
  · wp_walk using k2
    exact ⟨_, rfl, h2⟩
theorem call_enumT {prog : Program} {w : World} {A : Around} {E : Value → Shared → Prop} {s : Shared} {l : Addr} {items : Array Value} {Q : Value → Shared → Prop} (hl : s.heap.IsTuple l items)
    (h : ∀ h', IsEnum h' (s.heap.objs.size + 1) s.heap.objs.size 0 .none → h'.IsTupleIter s.heap.objs.size l 0 → (∀ b o, s.heap.get? b = some o → h'.get? b = some o) → Q (.ref (s.heap.objs.size + 1)) { s with heap := h' }) :
    wpAny (model prog w) A (call (.type "enumerate") [.ref l]) Q E s := by
  refine callType_new F.called_enumerate (by decide) (F.typeCall_enumerate_1 _) (F.newCall_enumerate_1 _) (fun made => F.args_object_init_2 made _) F.entry_enumerate_new (begun (begins_tuple l items)) ⟨hl, ?_⟩
  have e1 : (s.heap.push { cls := .type "tuple_iterator", data := .fields #[.ref l, .int 0 0] }).objs.size = s.heap.objs.size + 1 := Heap.size_push ..
  show _ ∧ _
  rw [e1]
  have e2 : IsEnum ((s.heap.push { cls := .type "tuple_iterator", data := .fields #[.ref l, .int 0 0] }).push { cls := .type "enumerate", data := .fields #[.none, .bool false, .ref s.heap.objs.size, rawInt 0, .none, .none] }) (s.heap.objs.size + 1) s.heap.objs.size 0 .none := by
    have z := Heap.get?_push_size (s.heap.push { cls := .type "tuple_iterator", data := .fields #[.ref l, .int 0 0] }) (o := { cls := .type "enumerate", data := .fields #[.none, .bool false, .ref s.heap.objs.size, rawInt 0, .none, .none] }) rfl
    rw [e1] at z
    exact z
  exact ⟨⟨_, e2, rfl⟩, h _ e2 ⟨_, Heap.get?_push_of_some _ (Heap.get?_push_size _ rfl), rfl, rfl⟩ fun b o x => Heap.get?_push_of_some _ (Heap.get?_push_of_some _ x)⟩
theorem pi_enumT {X : Cx} {e : Expr} {ta : TA} {p pos tpos : Pos} {elts : List Expr} {kk : Nat} (hg : Gl X "enumerate") (hm : X.mg "enumerate" = none) (ha : PA X [e] ta) (hs : starEach [e] X.env = [(false, eval e X.env)] := by rfl) :
    PI X (.Tuple elts kk tpos) (.Call (.Name "enumerate" p) [e] [] pos) (iEnumT X.K ta) := by
  refine ⟨fun pins s σ H R I h => Call_ (ld_blt I hg hm boot_enumerate (PyProof.Rows.callWith_type1 (thn (ha.run pos pins s σ H _ I h) fun us s1 ⟨vs, H1, I1, r1, q1⟩ => ?_) hs rfl))⟩
  obtain ⟨a, xs, rfl, hq, q⟩ := q1
  obtain rfl := Vals.ref1 r1
  obtain ⟨its, rv, pt, hz⟩ := I1.tuple hq
  refine call_enumT pt fun h' he hit hk => wpAny_pyIter_enum he ?_
  have I2 : Inv X pins σ H1 { s1 with heap := h' } := I1.kept (t' := s1.toks) hk
  refine ⟨s1.heap.objs.size + 1, [s1.heap.objs.size + 1, s1.heap.objs.size], _, _, H1, rfl, I2, turn_enumT a (s1.heap.objs.size + 1) s1.heap.objs.size, ⟨⟨.none, he⟩, hit, Nat.succ_ne_self _⟩, fun b hb => ?_, q⟩
  have hle : s1.heap.objs.size ≤ b := by
    rcases (show b = s1.heap.objs.size + 1 ∨ b = s1.heap.objs.size by simpa using hb) with z | z
    · rw [z]
      exact Nat.le_add_right _ _
    · rw [z]
      exact Nat.le_refl _
  exact I1.fpOk hle (I1.hok.fresh hle)
theorem walk_enumT {K : PySem.W.Frag} {a : Addr} {xs : List V} : Walk (IteT K a) xs.length (fun H => SqT K H a xs) (YPair (fun i => some (.int (i : Nat))) (fun i => xs[i]?)) := by
  refine ⟨fun i _ hi q => ⟨xs, xs[i], q, by simp [hi]⟩, fun _ q => ⟨xs, q, rfl⟩, fun i H v H' _ q y => ?_⟩
  obtain ⟨T, x, h1, h2, h3, h4⟩ := y
  exact ⟨T, .int (i : Nat), x, h1, h2, h3, rfl, h4 xs q⟩
theorem in4 {c N : Nat} (h : c ∈ [N + 4, N + 3, N, N + 1]) : c ∈ [N + 4, N + 2, N + 3, N, N + 1] := by
  simp only [List.mem_cons, List.not_mem_nil, or_false] at h ⊢
  omega
theorem in5 {c N : Nat} (h : c ∈ [N + 4, N + 2, N + 3, N, N + 1]) : N ≤ c := by
  simp only [List.mem_cons, List.not_mem_nil, or_false] at h
  omega
/-! ### zip(xs, t), xs a list, t a tuple -/
def ItzLT (K : PySem.W.Frag) (a b : Addr) : It :=
  ⟨fun i H => ∃ (xs ys : List V) (x y : V), SqL K H a xs ∧ SqT K H b ys ∧ xs[i]? = some x ∧ ys[i]? = some y,
    fun i H v H' => ∃ T x y, v = .ref T ∧ H T = none ∧ H' = upd H T (.tup [x, y]) ∧ (∀ xs, SqL K H a xs → xs[i]? = some x) ∧ ∀ ys, SqT K H b ys → ys[i]? = some y,
    fun i H => ∃ xs ys : List V, SqL K H a xs ∧ SqT K H b ys ∧ min xs.length ys.length = i⟩
theorem list_cls {h : Heap} {t : Addr} {items : Array Value} (p : h.IsList t items) : ∃ o, h.get? t = some o ∧ o.cls = .type "list" := let ⟨o, a, b, _⟩ := p; ⟨o, a, b⟩
theorem turn_zipLT {P : Program} {w : World} {K : PySem.W.Frag} {elts : List Expr} {kk : Nat} {tpos : Pos} (a b : Addr) (N : Nat) :
    Turn P w K (.Tuple elts kk tpos) (ItzLT K a b) [N + 4, N + 2, N + 3, N, N + 1] (N + 4) (fun i h => IsZip h (N + 4) (N + 2) (N + 3) .none ∧ IsTupOf2 h (N + 2) (.ref N) (.ref (N + 1)) ∧ (∃ x y, IsTupOf2 h (N + 3) x y) ∧ h.IsListIter N a i ∧ h.IsTupleIter (N + 1) b i ∧ a < N ∧ b < N) where
  mem := by simp
  obj := fun i h st c hc => by
    obtain ⟨hz, hTI, ⟨x, y, hTO⟩, ⟨o1, e1, _, d1⟩, ⟨o2, e2, _, d2⟩, _⟩ := st
    rcases (show c = N + 4 ∨ c = N + 2 ∨ c = N + 3 ∨ c = N ∨ c = N + 1 by simpa using hc) with rfl | rfl | rfl | rfl | rfl
    · exact ⟨_, hz, fun v q => nomatch q⟩
    · exact ⟨_, hTI, fun v q => nomatch q⟩
    · exact ⟨_, hTO, fun v q => nomatch q⟩
    · exact ⟨o1, e1, fun v q => by rw [d1] at q; cases q⟩
    · exact ⟨o2, e2, fun v q => by rw [d2] at q; cases q⟩
  keep := fun i h h' st k => by
    obtain ⟨hz, hTI, ⟨x, y, hTO⟩, h1, h2, l1, l2⟩ := st
    exact ⟨k (N + 4) (by simp) _ hz, k (N + 2) (by simp) _ hTI, ⟨x, y, k (N + 3) (by simp) _ hTO⟩, h1.at fun o q => k N (by simp) o q, h2.at fun o q => k (N + 1) (by simp) o q, l1, l2⟩
  item := by
    intro X hP hw hK hc i pins s σ H E I hf st hg
    subst hP hw hK
    obtain ⟨hz, hTI, hTO, h1, h2, l1, l2⟩ := st
    obtain ⟨xs, ys, x, y, hqx, hqy, hx, hy⟩ := hg
    obtain ⟨its, rv, p, _⟩ := I.list hqx
    obtain ⟨jts, rw', p', _⟩ := I.tuple hqy
    obtain ⟨u, hu, ru⟩ := rv.get hx
    obtain ⟨v, hv, rv'⟩ := rw'.get hy
    have n1 : a ≠ N := Nat.ne_of_lt l1
    have n2 : b ≠ N + 1 := Nat.ne_of_lt (Nat.lt_succ_of_lt l2)
    have hi : i < min its.toArray.size jts.toArray.size := by
      rw [List.size_toArray, List.size_toArray, ← rv.length, ← rw'.length]
      have z1 := (List.getElem?_eq_some_iff.mp hx).1
      have z2 := (List.getElem?_eq_some_iff.mp hy).1
      omega
    refine (GoesN.zip2 (prog := X.prog) (w := X.w) (A := X.A) (elts := elts) (x1 := kk) (pos := tpos) (zip_sep2 (N := N) (fp1 := [a]) (fp2 := [b]) (by simpa using l1) (by simpa using l2)) (Draws.list (A := X.A.in1) (I.ok.hd hc) N a n1 its.toArray) (Draws.tuple (A := X.A.in1) (I.ok.hd hc) (N + 1) b n2 jts.toArray)).goes i s _ E hi ⟨hz, hTI, hTO, ⟨h1, p.isList⟩, h2, p'⟩ fun r h' tk hY st' hk htk => ?_
    obtain ⟨T, u', v', rfl, hn, hu', hv', hT⟩ := hY
    have eu : u' = u := by
      have q : its.toArray[i]? = some u := by simpa using hu
      rw [q] at hu'
      exact (Option.some.inj hu').symm
    have ev : v' = v := by
      have q : jts.toArray[i]? = some v := by simpa using hv
      rw [q] at hv'
      exact (Option.some.inj hv').symm
    subst eu ev
    obtain ⟨I2, h0⟩ := gave (tk := tk) (xs := [x, y]) (vals := [u', v']) I (ch := [N + 4, N + 3, N, N + 1]) (fun c hc => hf c (in4 hc)) hn hT (.cons ru (.cons rv' .nil)) (by show 2 ≤ sizeLine; decide) hk
    obtain ⟨s1, s2, s3, s4, s5⟩ := st'
    refine ⟨.ref T, _, I2, rfl, ⟨T, x, y, rfl, h0, rfl, fun zs hz => by rw [I.list_inj hz hqx]; exact hx, fun zs hz => by rw [I.tuple_inj hz hqy]; exact hy⟩, ⟨s1, s2, s3, s4.1, s5.1, l1, l2⟩, fun c hc => ?_⟩
    have hc0 := (hf c hc).1
    have hbT : c ≠ T := fun z => by
      have q : ∃ o, s.heap.get? c = some o := by
        rcases (show c = N + 4 ∨ c = N + 2 ∨ c = N + 3 ∨ c = N ∨ c = N + 1 by simpa using hc) with rfl | rfl | rfl | rfl | rfl
        · exact ⟨_, hz⟩
        · exact ⟨_, hTI⟩
        · obtain ⟨_, _, e⟩ := hTO
          exact ⟨_, e⟩
        · obtain ⟨o, ho, _⟩ := h1
          exact ⟨o, ho⟩
        · obtain ⟨o, ho, _⟩ := h2
          exact ⟨o, ho⟩
      obtain ⟨o, ho⟩ := q
      have lt := Heap.lt_size ho
      rw [z] at lt
      exact absurd (Nat.lt_of_lt_of_le lt hn) (Nat.lt_irrefl _)
    rw [upd_ne hbT]
    exact hc0
  done := by
    intro X hP hw hK hc i pins s σ H E I hf st hg
    subst hP hw hK
    obtain ⟨hz, hTI, hTO, h1, h2, l1, l2⟩ := st
    obtain ⟨xs, ys, hqx, hqy, hx⟩ := hg
    obtain ⟨its, rv, p, _⟩ := I.list hqx
    obtain ⟨jts, rw', p', _⟩ := I.tuple hqy
    have n1 : a ≠ N := Nat.ne_of_lt l1
    have n2 : b ≠ N + 1 := Nat.ne_of_lt (Nat.lt_succ_of_lt l2)
    have hi : min its.toArray.size jts.toArray.size = i := by rw [List.size_toArray, List.size_toArray, ← rv.length, ← rw'.length, hx]
    subst hi
    exact (GoesN.zip2 (prog := X.prog) (w := X.w) (A := X.A) (elts := elts) (x1 := kk) (pos := tpos) (zip_sep2 (N := N) (fp1 := [a]) (fp2 := [b]) (by simpa using l1) (by simpa using l2)) (Draws.list (A := X.A.in1) (I.ok.hd hc) N a n1 its.toArray) (Draws.tuple (A := X.A.in1) (I.ok.hd hc) (N + 1) b n2 jts.toArray)).stops s _ E ⟨hz, hTI, hTO, ⟨h1, p.isList⟩, h2, p'⟩ fun h' tk hk _ =>
      turned2 I (ch := [N + 4, N + 3, N, N + 1]) (fun c hc => hf c (in4 hc)) hk
  self := fun A i s Q E st h => wpAny_pyIter_zip st.1 h
def iZipLT (K : PySem.W.Frag) (ta : TA) : TI := fun σ H R => ta σ H fun vs H1 => ∃ a b xs ys, vs = [.ref a, .ref b] ∧ SqL K H1 a xs ∧ SqT K H1 b ys ∧ R (ItzLT K a b) H1
theorem pi_zipLT {X : Cx} {e e2 : Expr} {ta : TA} {p pos tpos : Pos} {elts : List Expr} {kk : Nat} (hg : Gl X "zip") (hm : X.mg "zip" = none) (ha : PA X [e, e2] ta)
    (hs : starEach [e, e2] X.env = (false, eval e X.env) :: starEach [e2] X.env := by rfl) (hpl : (backTo pos (starEach [e2] X.env)).any (·.1) = false := by rfl) :
    PI X (.Tuple elts kk tpos) (.Call (.Name "zip" p) [e, e2] [] pos) (iZipLT X.K ta) := by
  refine ⟨fun pins s σ H R I h => Call_ (ld_blt I hg hm PyProof.Rows.boot_zip (PyProof.Rows.callWith_type1 (thn (ha.run pos pins s σ H _ I h) fun us s1 ⟨vs, H1, I1, r1, q1⟩ => ?_) hs hpl))⟩
  obtain ⟨a, b, xs, ys, rfl, hqx, hqy, q⟩ := q1
  obtain ⟨u1, u2, rfl, r1, r2⟩ := vals2 r1
  cases r1
  cases r2
  obtain ⟨its, rv, p1, _⟩ := I1.list hqx
  obtain ⟨jts, rw', p2, _⟩ := I1.tuple hqy
  have l1 : a < s1.heap.objs.size := let ⟨o, ho, _⟩ := list_cls p1.isList; Heap.lt_size ho
  have l2 : b < s1.heap.objs.size := let ⟨o, ho, _⟩ := tup_cls p2; Heap.lt_size ho
  refine zip_begins2 (begins_list a its.toArray) (begins_tuple b jts.toArray) p1.isList p2 fun h' k1 k2 k3 k4 k5 _ k6 => wpAny_pyIter_zip k1 ?_
  have I2 : Inv X pins σ H1 { s1 with heap := h' } := I1.kept (t' := s1.toks) k6
  refine ⟨s1.heap.objs.size + 4, _, _, _, H1, rfl, I2, turn_zipLT a b s1.heap.objs.size, ⟨k1, k2, ⟨_, _, k3⟩, ⟨_, k4, rfl, rfl⟩, ⟨_, k5, rfl, rfl⟩, l1, l2⟩, fun c hc => ?_, q⟩
  have hle : s1.heap.objs.size ≤ c := by
    exact in5 hc
  exact I1.fpOk hle (I1.hok.fresh hle)
theorem walk_zipLT {K : PySem.W.Frag} {a b : Addr} {xs ys : List V} {n : Nat} (hn : min xs.length ys.length = n) : Walk (ItzLT K a b) n (fun H => SqL K H a xs ∧ SqT K H b ys) (YPair (fun i => xs[i]?) (fun i => ys[i]?)) := by
  refine ⟨fun i _ hi q => ?_, fun _ q => ⟨xs, ys, q.1, q.2, hn⟩, fun i H v H' _ q y => ?_⟩
  · have h1 : i < xs.length := by omega
    have h2 : i < ys.length := by omega
    exact ⟨xs, ys, xs[i], ys[i], q.1, q.2, by simp [h1], by simp [h2]⟩
  · obtain ⟨T, x, z, h1, h2, h3, h4, h5⟩ := y
    exact ⟨T, x, z, h1, h2, h3, h4 xs q.1, h5 ys q.2⟩
/-! ### d.items(), the keys tuples -/
theorem paired_at {α β : Type} {F : α → β → Prop} : ∀ {xs : List α} {ys : List β} {i : Nat} {x : α}, Paired F xs ys → xs[i]? = some x → ∃ y, ys[i]? = some y ∧ F x y
  | _, _, _, _, .nil, e => by simp at e
  | _, _, 0, _, .cons r _, e => by
    simp at e
    subst e
    exact ⟨_, rfl, r⟩
  | _, _, i + 1, _, .cons _ t, e => by
    obtain ⟨y, h1, h2⟩ := paired_at (i := i) t (by simpa using e)
    exact ⟨y, by simpa using h1, h2⟩
theorem frz_items {X : Cx} {pins : List (Addr × Obj)} {σ : L2.St} {H : Hp} {s : Shared} {d : Addr} {o : Obj} {kvs : List (List Key × V)} (I : Inv X pins σ H s) (h : H d = some (.frz o (.dT kvs))) :
    (d == sysModules) = false ∧ s.heap.get? d = some o ∧ o.ExactDict ∧ ∃ (es : Array DictEntry) (ep : Nat), o.data = .dict es ep ∧ es.size = kvs.length ∧
      ∀ (i : Nat) (k : List Key) (v : V), kvs[i]? = some (k, v) → ∃ (en : DictEntry) (q : Addr), es[i]? = some en ∧ en.key = .ref q ∧ H q = some (.tup (k.map kV)) ∧ RelV v en.val := by
  obtain ⟨hd, z, hs, xs, pr, o', es, ep, ho, hx, hdt, he, _⟩ := I.hok d _ h
  rw [hd] at ho
  cases ho
  have l1 : es.size = xs.length := by
    have e := congrArg List.length he
    rw [Array.length_toList, List.length_map] at e
    exact e
  have l2 : kvs.length = xs.length := Paired.length pr
  refine ⟨hs, hd, hx, es, ep, hdt, by rw [l1, l2], fun i k v e => ?_⟩
  obtain ⟨q, hq, e1, e2, e3⟩ := paired_at pr e
  obtain ⟨q1, q2, q3⟩ := q
  refine ⟨entryOfKey (tupleKind (mixKind X.prog X.w)) (q1, q2, q3), q2, ?_, rfl, ?_, e3⟩
  · rw [← Array.getElem?_toList, he, List.getElem?_map, hq]
    rfl
  · obtain rfl : k = q1 := e1
    exact e2
theorem ep_one {o : Obj} {es es' : Array DictEntry} {ep ep' : Nat} (h : o.data = .dict es ep) (h' : o.data = .dict es' ep') : es' = es ∧ ep' = ep := by
  rw [h] at h'
  cases h'
  exact ⟨rfl, rfl⟩
def ItiT (d : Addr) (o : Obj) (kvs : List (List Key × V)) : It :=
  ⟨fun i H => H d = some (.frz o (.dT kvs)) ∧ i < kvs.length, fun i H x H' => ∃ T k v q, kvs[i]? = some (k, v) ∧ x = .ref T ∧ H T = none ∧ H q = some (.tup (k.map kV)) ∧ H' = upd H T (.tup [.ref q, v]), fun i H => H d = some (.frz o (.dT kvs)) ∧ i = kvs.length⟩
theorem turn_itemsT {P : Program} {w : World} {K : PySem.W.Frag} {d : Addr} {o : Obj} {es : Array DictEntry} {ep : Nat} {kvs : List (List Key × V)} {elts : List Expr} {kk : Nat} {tpos : Pos} (it : Addr) (hod : o.data = .dict es ep) :
    Turn P w K (.Tuple elts kk tpos) (ItiT d o kvs) [it] it (fun i h => ∃ ok ov, IsItemIter h it d i kvs.length ep ok ov) where
  mem := by simp
  obj := fun i h st b hb => by
    obtain rfl : b = it := by simpa using hb
    obtain ⟨ok, ov, e⟩ := st
    exact ⟨_, e, fun v z => nomatch z⟩
  keep := fun i h h' st k => let ⟨ok, ov, e⟩ := st; ⟨ok, ov, k it (by simp) _ e⟩
  item := by
    intro X hP hw hK hc i pins s σ H E I hf st hg
    subst hP hw hK
    obtain ⟨hd, hi⟩ := hg
    obtain ⟨hs, hgd, hx, es', ep', hdt, hsz, ent⟩ := frz_items I hd
    obtain ⟨rfl, rfl⟩ := ep_one hod hdt
    obtain ⟨⟨k, v⟩, hkv⟩ : ∃ p, kvs[i]? = some p := ⟨kvs[i], List.getElem?_eq_getElem hi⟩
    obtain ⟨en, q, hen, hkey, hq, rv⟩ := ent i k v hkv
    obtain ⟨ok, ov, he⟩ := st
    have ne : d ≠ it := apart_of hgd he (by rw [hx.1]; exact nty (by decide))
    rw [← hsz] at he
    refine (GoesN.rawItems (prog := X.prog) (w := X.w) (elts := elts) (x1 := kk) (pos := tpos) (I.ok.hd hc) it d ne es' ep').goes i s _ E (by rw [hsz]; exact hi) ⟨⟨ok, ov, he⟩, ⟨o, hgd, hx, hdt⟩⟩ fun r h' tk hY st' hk htk => ?_
    obtain ⟨T, hi2, rfl, hn, hT⟩ := hY
    have e1 : es'[i] = en := by
      rw [Array.getElem?_eq_getElem hi2] at hen
      exact Option.some.inj hen
    rw [e1, hkey] at hT
    obtain ⟨I2, h0⟩ := gave (tk := tk) (xs := [.ref q, v]) (vals := [.ref q, en.val]) I (ch := [it]) hf hn hT (.cons rfl (.cons rv .nil)) (by show 2 ≤ sizeLine; decide) hk
    obtain ⟨⟨ok2, ov2, st2⟩, _⟩ := st'
    refine ⟨.ref T, _, I2, rfl, ⟨T, k, v, q, hkv, rfl, h0, hq, rfl⟩, ⟨ok2, ov2, hsz ▸ st2⟩, fun b hb => ?_⟩
    have hb0 := (hf b hb).1
    obtain rfl : b = it := by simpa using hb
    have lt := Heap.lt_size he
    have bT : b ≠ T := fun z => by
      rw [z] at lt
      exact absurd (Nat.lt_of_lt_of_le lt hn) (Nat.lt_irrefl _)
    rw [upd_ne bT]
    exact hb0
  done := by
    intro X hP hw hK hc i pins s σ H E I hf st hg
    subst hP hw hK
    obtain ⟨hd, rfl⟩ := hg
    obtain ⟨hs, hgd, hx, es', ep', hdt, hsz, ent⟩ := frz_items I hd
    obtain ⟨rfl, rfl⟩ := ep_one hod hdt
    obtain ⟨ok, ov, he⟩ := st
    have ne : d ≠ it := apart_of hgd he (by rw [hx.1]; exact nty (by decide))
    rw [← hsz] at he
    exact (GoesN.rawItems (prog := X.prog) (w := X.w) (elts := elts) (x1 := kk) (pos := tpos) (I.ok.hd hc) it d ne es' ep').stops s _ E ⟨⟨ok, ov, he⟩, ⟨o, hgd, hx, hdt⟩⟩ fun h' tk hk _ => turned2 I (ch := [it]) hf hk
  self := fun A i s Q E st h => let ⟨_, _, e⟩ := st; PySem.W.kcp_self e h
def iItemsT (td : TE) : TI := fun σ H R => td σ H fun x H1 => ∃ d o kvs, x = .ref d ∧ H1 d = some (.frz o (.dT kvs)) ∧ R (ItiT d o kvs) H1
theorem pi_itemsT {X : Cx} {e : Expr} {td : TE} {apos cpos : Pos} {elts : List Expr} {kk : Nat} {tpos : Pos} (he : PE X e td) (hbase : attributeBase e "items" X.env (eval e X.env) = eval e X.env := by rfl) (hline : (apos.endLine == cpos.line) = true := by rfl) :
    PI X (.Tuple elts kk tpos) (.Call (.Attribute e "items" apos) [] [] cpos) (iItemsT td) := by
  refine ⟨fun pins s σ H R I h => wpAny_Call_method (T := "dict") (id := "dict.items") hbase rfl hline F.plainAttrs_dict F.slot_dict_items F.type_dict_items (thn (he.run pins s σ H _ I h) fun u s1 ⟨x, H1, I1, rx, d, o, kvs, ex, hd, q⟩ => ?_)⟩
  subst ex
  obtain rfl : u = Value.ref d := rx
  obtain ⟨hs, hgd, hx, es, ep, hdt, hsz, ent⟩ := frz_items I1 hd
  have R0 : s1.heap.DictRaw d es ep := ⟨o, hgd, hx, hdt⟩
  refine ⟨R0.typeIs, fun a ea => ?_, ?_⟩
  · cases ea
    exact ⟨o, hgd, hx.2.1⟩
  have I2 : Inv X pins σ H1 { s1 with heap := s1.heap.push { cls := .type "dict_items", data := .fields #[.ref d] } } := I1.kept (t' := s1.toks) fun b ob q => Heap.get?_push_of_some _ q
  have fin : wpAny (model X.prog X.w) X.A (pyIter (.ref s1.heap.objs.size)) (PIE X pins σ (.Tuple elts kk tpos) R) X.xe { s1 with heap := s1.heap.push { cls := .type "dict_items", data := .fields #[.ref d] } } := by
    refine wpAny_pyIter_items_raw (d := d) ⟨_, Heap.get?_push_size _ rfl, rfl, rfl⟩ (R0.at fun o q => Heap.get?_push_of_some _ q) (pi_one (tk := s1.toks) I2 _ (turn_itemsT _ hdt) ⟨.none, .none, ?_⟩ q)
    rw [hsz]
    exact Heap.get?_push_size _ rfl
  show wpAny _ _ (callWith cpos (.builtin "dict.items") [.ref d] [] []) _ X.xe s1
  exact method_meetsIn F.slot_dict_items F.entry_dict_items rfl (PySem.evalArgs_none ⟨rfl, R0.typeIs, F.args_dict_items_1 _, _, meets_dict_items_raw d hs, ⟨es, ep, R0⟩, fin⟩)
theorem walk_itemsT {d : Addr} {o : Obj} {kvs : List (List Key × V)} : Walk (ItiT d o kvs) kvs.length (fun H => H d = some (.frz o (.dT kvs))) (fun i H x H' => ∃ T k v q, kvs[i]? = some (k, v) ∧ x = .ref T ∧ H T = none ∧ H q = some (.tup (k.map kV)) ∧ H' = upd H T (.tup [.ref q, v])) :=
  ⟨fun _ _ hi q => ⟨q, hi⟩, fun _ q => ⟨q, rfl⟩, fun _ _ _ _ _ _ y => y⟩
end BX
/-! more rules of our own: t.index(n); d['more'] = v beside keys that are tuples; repr of data -/
namespace BX
open PySem PySem.Spec PyProof.Rows L2
section
variable {X : Cx}
/-- t.index(k), whole numbers, k among them -/
def rTIx (K : PySem.W.Frag) : V → List V → Hp → VK → Prop := fun x xs H Q => ∃ (p : Addr) (ns : List Int) (k : Int), x = .ref p ∧ xs = [.int k] ∧ SqT K H p (ns.map V.int) ∧ k ∈ ns ∧ Q (.int (ns.idxOf k : Nat)) H
theorem ints_of : ∀ {ns : List Int} {us : List Value}, Vals (ns.map V.int) us → IntsAre us ns
  | [], _, .nil => .nil
  | n :: r, _, .cons ⟨t, e⟩ h => by
    subst e
    exact .cons n t (ints_of h)
theorem mt_tupIx : MtR X "tuple.index" (rTIx X.K) := by
  intro pins s σ H x xs v us Q I rx rxs h
  obtain ⟨p, ns, k, rfl, rfl, hs, hk, q⟩ := h
  cases rx
  obtain ⟨t, ht⟩ := (show ∃ t, us = [Value.int k t] by
    cases rxs with
    | cons a b =>
      cases b
      obtain ⟨t, rfl⟩ := a
      exact ⟨t, rfl⟩)
  subst ht
  obtain ⟨its, rv, ⟨o, ho, hc, n, hd⟩, _⟩ := I.tuple hs
  exact SeqAt.tuple_index_ints (vs := its) ⟨o, ho, hc, n, hd⟩ (ints_of rv) hk ⟨.int _, H, I.tok _, ⟨_, rfl⟩, q⟩
end
section
variable {prog : Program} {w : World} {A : Around} {E : Value → Shared → Prop} {s : Shared}
/-- a text is not among keys that are tuples -/
theorem find_text {d : Addr} {o : Obj} {es : Array DictEntry} {ep : Nat} {x : Str} {t : Tok} {hs : Int} {Q : Option Nat → Shared → Prop} (hu : A.units + 8 < cLine) (ho : s.heap.get? d = some o) (hd : o.data = .dict es ep) (hz : 0 < es.size)
    (hk : ∀ e ∈ es, ∃ a its, e.key = .ref a ∧ s.heap.IsTuple a its ∧ ∀ n, 1 ≤ n → QuietAt prog w n s (.ref a)) (h : Q none s) : wpAny (model prog w) A (dictFind d (.str x t) hs) Q E s := by
  unfold dictFind
  try with_reducible refine wpAny_holding ?_
  refine wpAny_bind (wpAny_dictEntries ho hd ?_)
  dsimp only
  have hall : ¬ (es.all fun e => isExactStrKey e.key) = true := by
    intro z
    have h1 := Array.all_eq_true.mp z 0 hz
    obtain ⟨a, its, e, _⟩ := hk es[0] (Array.getElem_mem hz)
    rw [e] at h1
    simp [isExactStrKey] at h1
  rw [if_neg hall]
  generalize hst : (placesWithHash es.size (fun i => es[i]?.map (·.hash)) hs).filterMap (fun i => es[i]?.map (·.key)) = stored
  have hmem : ∀ v ∈ stored, ∃ a its, v = .ref a ∧ s.heap.IsTuple a its ∧ ∀ n, 1 ≤ n → QuietAt prog w n s (.ref a) := by
    intro v hv
    rw [← hst] at hv
    obtain ⟨i, _, hi⟩ := List.mem_filterMap.mp hv
    cases hei : es[i]? with
    | none =>
      rw [hei] at hi
      cases hi
    | some e =>
      rw [hei] at hi
      obtain ⟨a, its, e1, e2⟩ := hk e (Array.mem_of_getElem? hei)
      obtain rfl : e.key = v := by simpa using hi
      exact ⟨a, its, e1, e2⟩
  have loopP : wpAny (model prog w) A (dictWalkPlain d (.str x t) hs es (placesWithHash es.size (fun i => es[i]?.map (·.hash)) hs)) Q E s := by
    unfold dictWalkPlain
    refine wpAny_bind ?_
    refine wpAny_forIn_list _ (fun rest r s' => s' = s ∧ r = (none, ())) _ ?_ ?_ _ _ ⟨rfl, rfl⟩
    · rintro i rest r s' ⟨rfl, rfl⟩
      cases hei : es[i]? with
      | none => exact wpAny_pure ⟨rfl, rfl⟩
      | some e =>
        obtain ⟨a, its, e1, e2, _⟩ := hk e (Array.mem_of_getElem? hei)
        dsimp only
        by_cases hh : (e.hash == hs) = true
        · rw [if_pos hh]
          refine wpAny_bind (wpAny_dictEpoch ho hd ?_)
          rw [e1]
          refine wpAny_bind (SeqAt.EqAt.tuple_str x t e2 (by omega) _ _ _ _ (wpAny_bind (wpAny_dictEpoch ho hd ?_)))
          rw [if_neg (by simp)]
          simp only [Bool.false_eq_true, if_false]
          exact wpAny_bind (wpAny_rule (wpAny_pure ⟨rfl, rfl⟩))
        · rw [if_neg hh]
          exact wpAny_pure ⟨rfl, rfl⟩
    · rintro r s' ⟨rfl, rfl⟩
      exact wpAny_pure h
  by_cases hp : ((Value.str x t :: stored).all carriedByValue) = true
  · rw [if_pos hp]
    exact loopP
  rw [if_neg hp]
  have tell : wpAny (model prog w) A (tableMayTell (.str x t) stored) (fun b s' => b = false ∧ s' = s) E s := by
    unfold tableMayTell
    split
    · exact wpAny_pure ⟨rfl, rfl⟩
    · refine wpAny_bind (QuietAt.byValue (n := 8) rfl _ _ _ ?_)
      simp only [Bool.not_true, Bool.false_eq_true, if_false]
      refine wpAny_bind ?_
      refine wpAny_forIn_list _ (fun rest r s' => s' = s ∧ r = (none, ()) ∧ ∀ v ∈ rest, v ∈ stored) _ ?_ ?_ _ _ ⟨rfl, rfl, fun _ z => z⟩
      · rintro v rest r s' ⟨rfl, rfl, hr⟩
        obtain ⟨a, its, rfl, _, qt⟩ := hmem v (hr v List.mem_cons_self)
        refine wpAny_bind (qt 8 (by omega) _ _ _ ?_)
        simp only [Bool.not_true, Bool.false_eq_true, if_false]
        exact wpAny_pure ⟨rfl, rfl, fun v hv => hr v (List.mem_cons_of_mem _ hv)⟩
      · rintro r s' ⟨rfl, rfl, _⟩
        exact wpAny_pure ⟨rfl, rfl⟩
  by_cases hone : (stored == [Value.str x t]) = true <;>
  (first | rw [if_pos hone] | rw [if_neg hone]) <;> (first | refine wpAny_bind (wpAny_pure ?_) | (refine wpAny_bind (wpAny_mono tell (fun b s' hb => ?_) fun _ _ z => z); obtain ⟨hb1, hb2⟩ := hb; have hb3 := hb2.symm; subst hb1; subst hb3)) <;> (
    rw [if_neg (by simp)]
    refine wpAny_bind ?_
    refine wpAny_forIn_list _ (fun rest r s' => s' = s ∧ r = (none, none)) _ ?_ ?_ _ _ ⟨rfl, rfl⟩
    · rintro i rest r s' ⟨rfl, rfl⟩
      cases hei : es[i]? with
      | none => exact wpAny_pure ⟨rfl, rfl⟩
      | some e =>
        obtain ⟨a, its, e1, e2, _⟩ := hk e (Array.mem_of_getElem? hei)
        dsimp only
        by_cases hh : (e.hash == hs) = true
        · rw [if_pos hh]
          refine wpAny_bind (wpAny_dictEpoch ho hd ?_)
          rw [e1]
          refine wpAny_bind (SeqAt.EqAt.tuple_str x t e2 (by omega) _ _ _ _ (wpAny_bind (wpAny_dictEpoch ho hd ?_)))
          rw [if_neg (by simp)]
          simp only [Bool.false_eq_true, if_false]
          refine wpAny_bind (wpAny_rule ?_)
          first | rw [if_neg (by simp)] | skip
          first
            | exact wpAny_pure ⟨rfl, rfl⟩
            | exact wpAny_bind (wpAny_pure (wpAny_pure ⟨rfl, rfl⟩))
        · rw [if_neg hh]
          exact wpAny_pure ⟨rfl, rfl⟩
    · rintro r s' ⟨rfl, rfl⟩
      exact wpAny_pure h)
end

section
variable {X : Cx} {pins : List (Addr × Obj)} {σ : L2.St} {H : Hp} {s : Shared}
/-- d['..'] = v where all keys are tuples: afterwards nothing is told of d -/
theorem set_text {A : Around} {E : Value → Shared → Prop} {a : Addr} {kvs : List (List L2.Key × V)} {x : Str} {t : Tok} {v : Value} {Q : Unit → Shared → Prop} (hu : A.units + 16 < cLine) (I : Inv X pins σ H s) (e : H a = some (.dT kvs)) (hz : 0 < kvs.length)
    (h : ∀ s', Inv X pins σ (upd H a (.ext fun _ => True)) s' → Q () s') : wpAny (model X.prog X.w) A (setItem (.ref a) (.str x t) v) Q E s := by
  obtain ⟨z, hs, xs, rel, o, es, ep, ho, hc, hd, he, his, hn⟩ := dt_of I.hok e
  have hm : s.TypeIs (.ref a) "dict" := ⟨o, ho, hc.1⟩
  have hsz : es.size = xs.length := size_of_entries he
  have hl : kvs.length = xs.length := Paired.length rel
  unfold setItem
  try with_reducible refine wpAny_holding ?_
  refine wpAny_bind (wpAny_sequenceKey hm (by decide) ?_)
  refine wpAny_bind (wpAny_callSpecial?_slot (name := Str.ofString "__setitem__") hm slot_dict_setitem
    (wpAny_call_entry slot_dict_setitem hm entry_dict_setitem ?_ (args_dict_setitem _ _ _)))
  show wpAny _ _ (Builtin.Dict.notOrdered "__setitem__" ⟨[.ref a, .str x t, v], []⟩ >>= _) _ _ s
  refine wpAny_bind (wpAny_notOrdered_dict hm ?_)
  show wpAny _ _ (dictSet a (.str x t) v >>= _) _ _ s
  refine wpAny_bind ?_
  unfold dictSet
  try with_reducible refine wpAny_holding ?_
  refine wpAny_bind (wpAny_pyHash_str ?_)
  unfold dictSetHashed
  try with_reducible refine wpAny_holding ?_
  refine wpAny_bind (find_text (s := { s with toks := s.toks + 1 }) (by show A.units + 1 + 8 < cLine; omega) ho hd (by omega) (fun en hen => ?_) ?_)
  · have : en ∈ xs.map (entryOfKey (tupleKind (mixKind X.prog X.w))) := he ▸ Array.mem_toList_iff.mpr hen
    obtain ⟨y, hy, rfl⟩ := List.mem_map.mp this
    have q := his y hy
    obtain ⟨o2, its, n, h1, h2, h3, h4⟩ := q
    refine ⟨y.2.1, its, rfl, ⟨o2, h1, h2, n, h3⟩, fun n hn => ?_⟩
    obtain ⟨m, rfl⟩ : ∃ m, n = m + 1 := ⟨n - 1, by omega⟩
    refine QuietAt.tuple h1 h2 h3 fun v hv => ?_
    exact QuietAt.byValue (h4.byValue v hv)
  refine wpAny_bind (wpAny_rule (wpAny_updateDictKeys (hz := by omega) (s := { s with toks := s.toks + 1 }) ho hd (wpAny_pure ⟨.none, rfl, wpAny_pure (h _ ?_)⟩)))
  exact d_write (I.tok _) (by rw [e]; exact True.intro) (Heap.SameBut.update ..) ⟨_, Heap.get?_update_self _ ho (Obj.isFreed_of_dict (Obj.data_mapDictKeys hd _))⟩ ⟨trivial, ⟨_, Heap.get?_update_self _ ho (Obj.isFreed_of_dict (Obj.data_mapDictKeys hd _))⟩, fun _ _ _ _ => trivial⟩
end

/-! a display's key is a text: d['more'] = v -/
def sDTxt (td ty tv : TE) : TS := fun D σ H => tv σ H fun v H1 => td σ H1 fun x H2 => ty σ H2 fun y H3 => ∃ a kvs z, x = .ref a ∧ y = .str z ∧ H3 a = some (.dT kvs) ∧ 0 < kvs.length ∧ D.nx σ (upd H3 a (.ext fun _ => True))
section
variable {X : Cx} {o i value : Expr} {td ty tv : TE} {pos pos' : Pos}
theorem ps_dtxt (hu : X.A.units + 16 < cLine) (ho : PE X o td) (hi : PE X i ty) (hv : PE X value tv) (hs : swapsWith value (some (.Subscript o i pos')) pos.line X.env = pure false := by rfl) :
    PS X (.Assign [.Subscript o i pos'] value pos) (sDTxt td ty tv) := by
  refine ⟨fun pins s σ H D I h => ?_⟩
  refine wpAny_Assign_Subscript (thn (hv.run pins s σ H _ I h) fun r s1 ⟨v, H1, I1, rv, q1⟩ => thn (ho.run pins s1 σ H1 _ I1 q1) fun u s2 ⟨x, H2, I2, rx, q2⟩ => thn (hi.run pins s2 σ H2 _ I2 q2) fun iv s3 ⟨y, H3, I3, ry, a, kvs, z, ex, ey, e, hz, q3⟩ => ?_) hs
  subst ex ey
  obtain rfl : u = Value.ref a := rx
  obtain ⟨t, rfl⟩ := ry
  exact set_text hu I3 e hz fun s4 I4 => ⟨σ, _, I4, q3⟩
end
/-! ### repr -/
mutual
theorem reads_seq {h : Heap} : ∀ (d : PyData) (v : Value) (as : List Addr), Reads h v d as → d.hasDict = false → ∀ a ∈ as, ∃ o vs n, h.get? a = some o ∧ o.data = .seq vs n
  | .none, _, _, r, _, a, ha => by
    cases r
    cases ha
  | .bool _, _, _, r, _, a, ha => by
    cases r
    cases ha
  | .int _, _, _, r, _, a, ha => by
    cases r
    cases ha
  | .str _, _, _, r, _, a, ha => by
    cases r
    cases ha
  | .list xs, _, _, r, hd, a, ha => by
    cases r with
    | list h1 h2 h3 h4 =>
      rcases List.mem_cons.mp ha with e | ha
      · exact ⟨_, _, _, e ▸ h1, h3⟩
      · exact reads_seqs xs _ _ h4 (by simpa [PyData.hasDict] using hd) a ha
  | .tuple xs, _, _, r, hd, a, ha => by
    cases r with
    | tuple h1 h2 h3 h4 => exact reads_seqs xs _ _ h4 (by simpa [PyData.hasDict] using hd) a ha
  | .dict _, _, _, _, hd, _, _ => by simp [PyData.hasDict] at hd
theorem reads_seqs {h : Heap} : ∀ (ds : List PyData) (vs : List Value) (as : List Addr), ReadsAll h vs ds as → PyData.hasDictAll ds = false → ∀ a ∈ as, ∃ o vs n, h.get? a = some o ∧ o.data = .seq vs n
  | [], _, _, r, _, a, ha => by
    cases r
    cases ha
  | d :: ds, _, _, r, hd, a, ha => by
    cases r with
    | cons h1 h2 =>
      simp only [PyData.hasDictAll, Bool.or_eq_false_iff] at hd
      rcases List.mem_append.mp ha with ha | ha
      · exact reads_seq d _ _ h1 hd.1 a ha
      · exact reads_seqs ds _ _ h2 hd.2 a ha
end
def keyD (ks : List L2.Key) : PyData := .tuple (ks.map fun k => match k with
  | .inl i => .int i
  | .inr z => .str z)
def dictD (kvs : List (List L2.Key × V)) (ds : List PyData) : PyData := .dict ((kvs.map fun p => keyD p.1).zip ds)
section
variable {X : Cx} {pins : List (Addr × Obj)} {σ : L2.St} {H : Hp} {s : Shared}
theorem key_reads {h : Heap} {ks : List L2.Key} {its : List Value} (r : Vals (ks.map kV) its) : ReadsAll h its (ks.map fun k => match k with
  | .inl i => PyData.int i
  | .inr z => .str z) [] := by
  induction ks generalizing its with
  | nil =>
    cases r
    exact .nil
  | cons k ks ih =>
    cases r with
    | cons r1 r2 =>
      cases k with
      | inl i =>
        obtain ⟨t, rfl⟩ := r1
        exact .cons (as := []) (.int i t) (ih r2)
      | inr z =>
        obtain ⟨t, rfl⟩ := r1
        exact .cons (as := []) (.str z t) (ih r2)
/-- the keys and values of a dict, as data -/
theorem kt_reads (I : Inv X pins σ H s) : ∀ {kvs : List (List L2.Key × V)} {xs : List (List L2.Key × Addr × Value)} {ds : List PyData}, KT H kvs xs → DpAll X.K H (kvs.map (·.2)) ds → PyData.hasDictAll ds = false →
    ReadsAll s.heap (xs.map fun x => Value.ref x.2.1) (kvs.map fun p => keyD p.1) [] ∧ ∃ bs, ReadsAll s.heap (xs.map fun x => x.2.2) ds bs ∧ ∀ a ∈ bs, ∃ o vs n, s.heap.get? a = some o ∧ o.data = .seq vs n
  | [], _, _, .nil, h, _ => by
    cases h
    exact ⟨.nil, [], .nil, fun _ z => by cases z⟩
  | (k, v) :: kvs, _, _, .cons (b := x) r rs, h, hd => by
    cases h with
    | cons h1 h2 =>
      rename_i d ds
      simp only [PyData.hasDictAll, Bool.or_eq_false_iff] at hd
      obtain ⟨e1, e2, e3⟩ := r
      obtain ⟨q1, bs, q2, q3⟩ := kt_reads I rs h2 hd.2
      obtain ⟨as, q4⟩ := Dp.reads I d v x.2.2 h1 e3
      obtain ⟨_, its, rv, o, h3, h4, n, h5⟩ := (show ObjOk X.prog X.w H s.heap x.2.1 (.tup (k.map kV)) from I.hok _ _ e2)
      refine ⟨.cons (as := []) (.tuple h3 h4 h5 (key_reads rv)) q1, as ++ bs, .cons q4 q2, fun a ha => ?_⟩
      rcases List.mem_append.mp ha with ha | ha
      · exact reads_seq d _ _ q4 hd.1 a ha
      · exact q3 a ha
theorem zip_fst : ∀ {α β : Type} {l : List α} {m : List β}, l.length = m.length → (l.zip m).map (·.1) = l ∧ (l.zip m).map (·.2) = m
  | _, _, [], [], _ => ⟨rfl, rfl⟩
  | _, _, a :: l, b :: m, h => by
    obtain ⟨h1, h2⟩ := zip_fst (l := l) (m := m) (Nat.succ.inj h)
    exact ⟨by rw [List.zip_cons_cons, List.map_cons, h1], by rw [List.zip_cons_cons, List.map_cons, h2]⟩
theorem dpAll_length {K : PySem.W.Frag} : ∀ {vs : List V} {ds : List PyData}, DpAll K H vs ds → vs.length = ds.length
  | [], _, .nil => rfl
  | _ :: _, _, .cons _ h => congrArg Nat.succ (dpAll_length h)
/-- repr(d), d a dict with tuples as keys -/
def rReprD (K : PySem.W.Frag) : RC := fun xs H Q => ∃ a kvs ds, xs = [.ref a] ∧ H a = some (.dT kvs) ∧ DpAll K H (kvs.map (·.2)) ds ∧ PyData.hasDictAll ds = false ∧ (dictD kvs ds).showable = true ∧ (dictD kvs ds).depth ≤ 60 ∧ (dictD kvs ds).shown.length ≤ sizeLine ∧ Q (.str (dictD kvs ds).shown) H
/-- the table of modules is a dict -/
def SysD (K : PySem.W.Frag) : Prop := ∃ c d es n sl, K.lookup sysModules = some ⟨c, d, .dict es n, sl⟩
theorem cReprD (hS : SysD X.K) (hg : X.A.guards = some []) (hu : X.A.units + 64 < cLine) : CallR X (.builtin "repr") (rReprD X.K) := by
  intro pins s σ H xs us Q I r h
  obtain ⟨a, kvs, ds, rfl, e, hv, hd, hsh, hdp, hz, q⟩ := h
  obtain rfl := Vals.ref1 r
  obtain ⟨_, hs, ys, rel, o, es, ep, ho, hc, hdt, he, his, hn⟩ := dt_of I.hok e
  obtain ⟨q1, bs, q2, q3⟩ := kt_reads I rel hv hd
  obtain ⟨z1, z2⟩ := zip_fst (l := kvs.map fun p => keyD p.1) (m := ds) (by rw [List.length_map]; exact (List.length_map _ ▸ dpAll_length hv : kvs.length = ds.length))
  have rd : Reads s.heap (.ref a) (dictD kvs ds) (a :: ([] : List Addr) ++ bs) := by
    refine Reads.dict ho hc.1 hdt ?_ ?_
    · rw [z1, he, List.map_map]
      exact q1
    · rw [z2, he, List.map_map]
      exact q2
  refine repr_of_reads' rd hsh (fun _ hm => ?_) hg (by omega) (fun _ _ z => z) (fun h' u tk hk => ⟨.str _, H, I.kept hk, ⟨u, rfl⟩, q⟩) hz
  rcases List.mem_cons.mp hm with e1 | e1
  · rw [← e1] at hs
    exact absurd hs (by decide)
  · obtain ⟨o1, vs, n, g1, g2⟩ := q3 _ e1
    obtain ⟨c, d, es1, n1, sl, lk⟩ := hS
    have := I.kIn _ _ lk
    rw [g1] at this
    cases this
    cases g2
end
end BX
/-! defs that are called where no repr runs -/
namespace BX
open PySem PySem.Spec PyProof.Rows L2
/-- as FnOk, where no repr runs around the call -/
structure FnG (P : Program) (w : World) (K : PySem.W.Frag) (mg : Str → Option Value) (base : Heap) (k : Nat) (f : Addr) (fd : FuncData) (ps : List Str) (sp : Sp) : Prop where
  len : ∀ vs H Q E, sp vs H Q E → vs.length = ps.length
  run : ∀ (B : Around) (fr : List Env) (t : Shared) (H : Hp) (as : Args) (us : List Value) (vs : List V) (Q : VK) (E : XK), B.guards = some [] → Room k B → Env0 P w K mg base B fr t H → BindsTo t fd as (ps.zip us) → Vals vs us → sp vs H Q E →
    codeAny (model P w) B (.call (.ref f) as) (CR CX0 fr P w H t Q E) t
section
variable {P : Program} {w : World} {K : PySem.W.Frag} {mg : Str → Option Value} {base : Heap}
theorem FnG.mono {j k : Nat} {f : Addr} {fd : FuncData} {ps : List Str} {sp : Sp} (F : FnG P w K mg base j f fd ps sp) (h : j ≤ k) : FnG P w K mg base k f fd ps sp :=
  ⟨F.len, fun B fr t H as us vs Q E hg hr => F.run B fr t H as us vs Q E hg (hr.mono h)⟩
/-- from the body -/
theorem fng {x qual : Str} {params : Arguments} {body : List Stmt} {scope : Scope} {f : Addr} {fd : FuncData} {N ps : List Str} {k : Nat} {sp : Sp} (F : FunD K x qual params body scope [] [] f fd) (S : FnScope N ps scope) (len : ∀ vs H Q E, sp vs H Q E → vs.length = ps.length)
    (bd : ∀ (cdv : Value) (B : Around) (fr : List Env) (t : Shared) (H : Hp) (vs : List V) (Q : VK) (E : XK), B.guards = some [] → Room k (B.deeper (envOfC qual scope t.heap.objs.size f cdv)) → sp vs H Q E →
      ∃ tt, PSs (cxOf CX0 P w K mg base N qual scope f cdv B fr t H E).nox body tt ∧ tt { nx := fun _ H' => Q .non H', rt := Q } (start N vs) H) : FnG P w K mg base (k + 1) f fd ps sp := by
  obtain ⟨oc, od, dV, kV, doc, pm, an, cdv, ct, osl, rfl, lk, hcd, _, _⟩ := F.ex
  refine ⟨len, fun B fr t H as us vs Q E hg hr e0 hb rv hsp => ?_⟩
  have ln := len _ _ _ _ hsp
  have kin : K.In t.heap := e0.mod.kin.keeps fun b o z => (e0.bs b o z).1
  have free : t.heap.NoLimit := e0.mod.nolimit.keeps fun b o z => (e0.bs b o z).1
  have kinds : ∀ y ∈ ps.zip us, scope.names.lookup y.1 = some .local ∨ (scope.names.lookup y.1 = some .cell ∧ ((cellsFrom (t.heap.objs.size + 1) scope.names []).lookup y.1).isSome = true) := by
    rintro ⟨n, v⟩ hy
    rcases S.par n (List.of_mem_zip hy).1 with z | z
    · exact Or.inl z
    · exact Or.inr ⟨z, PySem.W.cellsFrom_some _ _ _ (Or.inl z)⟩
  refine codeAny_call_function hr.depth (kin _ _ lk) rfl S.co S.gen rfl (PySem.W.codeRec_of kin hcd) (hb _ _ _ _ (wpAny_newFunctionEnv_cells S.kind kinds fun en hen t1 x => ?_))
  cases hen
  refine ⟨free.keeps x.toInCall.keep, codeAny_func ?_⟩
  obtain ⟨tt, h1, h2⟩ := bd cdv B fr t H vs Q E hg (hr.deeper _) hsp
  have I := inv_start (CX := CX0) (P := P) (w := w) (mg := mg) (E := E) S hr.hd e0 ln rv x
  refine wpAny_mono (h1.nox.run [] t1 (start N vs) H _ I h2) (fun fl t2 hs => ?_) fun _ _ z => z
  cases fl with
  | ret u =>
    obtain ⟨v, σ2, H2, J, r2, q2⟩ := hs
    exact ⟨v, H2, J.os, J.bare, J.base, J.hok, r2, q2⟩
  | next =>
    obtain ⟨σ2, H2, J, q2⟩ := hs
    exact ⟨V.non, H2, J.os, J.bare, J.base, J.hok, rfl, q2⟩
  | brk =>
    obtain ⟨_, _, _, z⟩ := hs
    exact z.elim
  | cont =>
    obtain ⟨_, _, _, z⟩ := hs
    exact z.elim
end
section
variable {X : Cx} {k : Nat} {f : Addr} {fd : FuncData} {ps : List Str} {sp : Sp} {x : Str} {e : Expr} {es : List Expr} {t : TA} {p pos : Pos}
/-- its call -/
theorem pcallG (F : FnG X.prog X.w X.K X.mg X.base k f fd ps sp) (hb : Binds X.K fd ps []) (kp : PySem.W.keepIn X.K (.ref f) = true) (hgd : X.A.guards = some []) (hr : Room k X.A) (hm : X.mg x = some (.ref f)) (ha : PA X (e :: es) t) (hg : Gl X x := by rfl)
    (hdb : (x == ("__debug__" : Str)) = false := by decide) (he : starEach (e :: es) X.env = (false, eval e X.env) :: starEach es X.env := by rfl) (hpl : (backTo pos (starEach es X.env)).any (·.1) = false := by rfl) :
    PE X (.Call (.Name x p) (e :: es) [] pos) (tCall sp [] E0 t) := by
  refine ⟨fun pins s σ H Q I h => ?_⟩
  refine wpAny_Call_Name_kw (ld_glob I hg hm ?_ hdb)
  refine PySem.W.callWith_K (h₀ := X.base) I.ok.mod.kin kp (thn (ha.run pos pins s σ H _ I h) fun us s1 h1 => ?_) he hpl
  obtain ⟨vs, H1, I1, r, q⟩ := h1
  refine ⟨I1.kIn, wpAny_call (codeAny_mono (F.run X.A X.stack s1 H1 ⟨us, []⟩ us vs Q E0 hgd hr I1.env0 ?_ r (by rw [List.append_nil] at q; exact q)) fun res s' hq => ?_)⟩
  · have ln : us.length = ps.length := by
      rw [← r.length]
      rw [List.append_nil] at q
      exact F.len _ _ _ _ q
    have z := hb s1 us I1.kIn (by rw [List.append_nil]; exact ln)
    rw [List.append_nil] at z
    exact z
  · cases res with
    | error er => exact hq.elim
    | ok fl =>
      cases fl with
      | ret u => exact I1.after hq
      | next => exact hq.elim
      | brk => exact hq.elim
      | cont => exact hq.elim
end
/-! the end -/
theorem law_callG {P : Program} {w : World} {K : PySem.W.Frag} {mg mb : Str → Option Value} {k : Nat} {fa a : Addr} {fd : FuncData} {x : Str} {sp : Sp} {t : Shared} {vs : List Value} {ns : List Int} (kin : K.In t.heap) (gl : t.heap.Ns mainGlobals mg) (bl : t.heap.Ns builtinsNs mb)
    (bb : ∀ x : Str, x ≠ "__name__" → mb x = bootBuiltins x) (nol : t.heap.NoLimit) (gens : t.gens = #[]) (at_ : t.heap.get? a = some { cls := .type "list", data := .seq vs.toArray }) (hin : IntsAre vs ns) (short : ns.length ≤ sizeLine) (hr : Room k callerA)
    (F : ∀ base : Heap, K.In base → base.Ns mainGlobals mg → FnG P w K mg base k fa fd [x] sp) (bind : ∀ (s : Shared) (u : Value), BindsTo s fd ⟨[u], []⟩ [(x, u)]) (hsp : ∀ H : Hp, Only H → SqL K H a (ns.map V.int) → sp [.ref a] H (fun v _ => v = .bl true) fun _ _ _ => False) :
    codeAny (model P w) callerA (.call (.ref fa) ⟨[.ref a], []⟩) (fun r s' => r = .ok (.ret (.bool true)) ∧ OldK t.heap s'.heap ∧ s'.os = t.os ∧ AllBare s'.gens) t := by
  have vv := vals_ints hin
  have ll := hin.length
  have main : ∀ H : Hp, Only H → SqL K H a (ns.map V.int) → HOk P w H t.heap → (∀ b, H b ≠ none → b = a) → (H a ≠ none → K.lookup a = none) →
      codeAny (model P w) callerA (.call (.ref fa) ⟨[.ref a], []⟩) (fun r s' => r = .ok (.ret (.bool true)) ∧ OldK t.heap s'.heap ∧ s'.os = t.os ∧ AllBare s'.gens) t := by
    intro H on sq ok just out
    have nodict : ∀ {b : Addr} {o : Obj} {es : Array DictEntry} {ep : Nat}, t.heap.get? b = some o → o.data = .dict es ep → H b = none := by
      intro b o es ep e d
      cases q : H b with
      | none => rfl
      | some u =>
        have e1 : b = a := just b (by rw [q]; exact fun z => nomatch z)
        rw [e1, at_] at e
        cases e
        cases d
    have ns_ : ∀ {b : Addr} {m : Str → Option Value}, t.heap.Ns b m → (hidT t.heap H).Ns b m := by
      rintro b m ⟨o, es, ep, e, d, r⟩
      exact ⟨o, es, ep, hidT_get e (nodict e d), d, r⟩
    have kb : K.In (hidT t.heap H) := by
      intro b o e
      refine hidT_get (kin b o e) ?_
      cases q : H b with
      | none => rfl
      | some u =>
        have e1 : b = a := just b (by rw [q]; exact fun z => nomatch z)
        rw [e1] at e q
        rw [out (by rw [q]; exact fun z => nomatch z)] at e
        cases e
    have env : Env0 P w K mg (hidT t.heap H) callerA [] t H := by
      obtain ⟨mc, n1, n2⟩ := nol
      exact ⟨rfl, ⟨kb, ns_ gl, ⟨mb, ns_ bl, bb⟩, ⟨mc, ns_ n1, n2⟩⟩, fun b o e => of_hidT e, Nat.le_of_eq (hidT_size _ _), trivial, fun b hb => absurd (show b ∈ ([] : List Addr) from hb) (by simp), ok, .of_eq gens⟩
    refine codeAny_mono ((F _ kb (ns_ gl)).run callerA [] t H ⟨[.ref a], []⟩ [.ref a] [.ref a] _ _ rfl hr env (bind t (.ref a)) (.cons rfl .nil) (hsp H on sq)) fun r s' h => ?_
    cases r with
    | error e => exact h.elim
    | ok fl =>
      cases fl with
      | next => exact h.elim
      | brk => exact h.elim
      | cont => exact h.elim
      | ret u =>
        obtain ⟨v, H2, os2, ba, un, ok2, rv, q⟩ := h
        cases (show v = .bl true from q)
        cases (show u = Value.bool true from rv)
        refine ⟨rfl, OldK.of_keep fun b o e => ?_, os2, ba⟩
        cases q : H b with
        | none => exact un.keep b o e q (fun z => by cases (show b ∈ ([] : List Addr) from z)) (by simp)
        | some u =>
          rcases on b with z | ⟨ob, xs, z⟩
          · rw [q] at z
            cases z
          · obtain ⟨e1, _⟩ := ok b _ z
            obtain ⟨e2, _⟩ := ok2 b _ (un.frzs b ob _ z)
            rw [e] at e1
            cases e1
            exact e2
  cases hk : K.lookup a with
  | some o =>
    have e := kin a o hk
    rw [at_] at e
    cases e
    exact main (fun _ => none) (fun _ => Or.inl rfl) (Or.inr ⟨_, vs.toArray, _, hk, rfl, rfl, rfl, by rw [List.size_toArray, ll]; exact short, by simpa using vv⟩) (fun b u z => nomatch (show (none : Option HO) = some u from z)) (fun b z => absurd rfl z) fun z => absurd rfl z
  | none =>
    have same : ∀ {b : Addr} {u : HO}, (if b = a then some (HO.frz { cls := .type "list", data := .seq vs.toArray } (.lst (ns.map V.int))) else none) = some u → b = a ∧ u = HO.frz { cls := .type "list", data := .seq vs.toArray } (.lst (ns.map V.int)) := by
      intro b u z
      split at z
      · cases z
        exact ⟨by assumption, rfl⟩
      · cases z
    refine main (fun b => if b = a then some (.frz { cls := .type "list", data := .seq vs.toArray } (.lst (ns.map V.int))) else none) (fun b => ?_) (Or.inl (Or.inr ⟨{ cls := .type "list", data := .seq vs.toArray }, if_pos rfl⟩)) (fun b u z => ?_) (fun b z => ?_) fun _ => hk
    · by_cases hb : b = a
      · exact Or.inr ⟨_, _, if_pos hb⟩
      · exact Or.inl (if_neg hb)
    · obtain ⟨e1, e2⟩ := same z
      rw [e1, e2]
      exact ⟨at_, by rw [List.length_map]; exact short, vs, _, vv, at_⟩
    · by_cases hb : b = a
      · exact hb
      · exact absurd (if_neg hb) z
theorem walk_ofG {l : PySem.W.OpenLaw} {n k : Nat} {q : Program} {loose : List Str} {XP : (Str → Option Value) → Heap → Prop} {YP : World → Heap → Prop} {d : DefRec} {x : Str} (hn : l.most = some n) (hn2 : n ≤ sizeLine) (hdf : d.params.defaults = []) (hr : Room k callerA)
    (F : ∀ (w : World) (mg : Str → Option Value) (fa : Addr) (h : Heap), YP w h → h.Ns mainGlobals mg → mg d.name = some (.ref fa) → ∃ (K : PySem.W.Frag) (fd : FuncData) (sp : Sp), K.In h ∧ (∀ (s : Shared) (u : Value), BindsTo s fd ⟨[u], []⟩ [(x, u)]) ∧
      (∀ (H : Hp) (a : Addr) (ns : List Int), ns.length ≤ n → Only H → SqL K H a (ns.map V.int) → sp [.ref a] H (fun v _ => v = .bl true) fun _ _ _ => False) ∧ ∀ base : Heap, K.In base → base.Ns mainGlobals mg → FnG l.prog w K mg base k fa fd [x] sp) :
    PySem.W.WalkO q loose XP YP l.row.toRowW d [] (fun f vs => PySem.call f vs) := by
  refine Att.attach_call hn hdf fun w s0 t mg mb fa o pm cd doc a vs ns G Y _ _ _ hmg hobj hints hlen hg => ?_
  obtain ⟨K, fd, sp, kin, hb, hsp, hF⟩ := F w mg fa _ Y G.T.g hmg
  exact law_callG kin G.T.g G.T.b G.T.builtins G.T.nolimit hg hobj hints (Nat.le_trans hlen hn2) hr hF hb fun H hO hS => hsp H a ns hlen hO hS
end BX
/-! room, for our own rules -/
namespace BX
open PySem PySem.Spec PyProof.Rows L2
theorem hu16 {k : Nat} {A : Around} (hr : Room k A) : A.units + 16 < cLine := by
  have := hr.un
  omega
theorem hu64 {k : Nat} {A : Around} (hr : Room k A) : A.units + 64 < cLine := by
  have := hr.un
  omega
theorem hu65 {k : Nat} {A : Around} (hr : Room k A) : A.units + 65 < cLine := by
  have := hr.un
  omega
end BX
/-! words for the walks: promises, comprehensions, what stands -/
namespace BX
open PySem PySem.Spec PyProof.Rows L2
/-- a promise of n arguments -/
def spN (n : Nat) (p : Sp) : Sp := fun vs H Q E => vs.length = n ∧ p vs H Q E

/-! ### G and H -/
section
variable {m : Option Addr} {G0 H0 G H : Hp}
/-- the heap grows beside what stands -/
theorem Gr.exH {H' : Hp} (a : Gr m G0 H0 G H) (e : Ex H H') : Gr m G0 H0 G H' := ⟨a.g, fun x o hx z => e x o (a.h x o hx z), a.s.trans e, a.n⟩
theorem Gr.start (s : Ex G H) : Gr m G H G H := Gr.refl s
/-- a pure step behind -/
theorem Gr.step {G1 H1 : Hp} (a : Gr m G0 H0 G H) (b : Gr none G H G1 H1) (hm : ∀ x, m = some x → G x = none ∧ ∃ o, H x = some o := by intro x z; cases z) : Gr m G0 H0 G1 H1 := by
  refine a.trans b.up fun x hx => ?_
  obtain ⟨h1, o, h2⟩ := hm x hx
  refine ⟨?_, b.out h1 h2⟩
  cases q : G0 x with
  | none => rfl
  | some u =>
    have z := a.g x u q
    rw [h1] at z
    cases z
/-- a mutable object that was new changes -/
theorem Gr.chg {p : Addr} {o : HO} (a : Gr m G0 H0 G H) (h0 : H0 p = none) (hg : G p = none) : Gr m G0 H0 G (upd H p o) := a.mut h0 hg
/-- the one that may change changes -/
theorem Gr.chm {p : Addr} {o : HO} (a : Gr (some p) G0 H0 G H) (hg : G p = none) : Gr (some p) G0 H0 G (upd H p o) :=
  ⟨a.g, fun x u hx e => by
    have hxp : x ≠ p := fun z => hx (by rw [z])
    rw [upd_ne hxp]
    exact a.h x u hx e, fun x u e => by
    have hxp : x ≠ p := fun z => by
      rw [z, hg] at e
      cases e
    rw [upd_ne hxp]
    exact a.s x u e, a.n⟩
theorem Ex.none {p : Addr} (e : Ex G H) (h : H p = none) : G p = none := back e h
/-- behind a step with something that may change, seen from one where nothing may -/
theorem Gr.hold {p : Addr} {o : HO} {G1 H1 : Hp} (b : Gr none G H G1 H1) (h : H p = some o) : H1 p = some o := b.e p o h
end

/-! ### data of PyData over a heap that grows -/
mutual
theorem dp_ex {K : PySem.W.Frag} {H H' : Hp} (e : Ex H H') : ∀ (d : PyData) (v : V), Dp K H v d → Dp K H' v d
  | .none, _, h => by
    cases h
    exact .non
  | .bool b, _, h => by
    cases h
    exact .bl b
  | .int i, _, h => by
    cases h
    exact .int i
  | .str x, _, h => by
    cases h
    exact .str x
  | .list ds, _, h => by
    cases h with
    | lst hs ha => exact .lst (ex_l e hs) (dps_ex e ds _ ha)
  | .tuple ds, _, h => by
    cases h with
    | tup hs ha => exact .tup (ex_t e hs) (dps_ex e ds _ ha)
  | .dict _, _, h => by cases h
theorem dps_ex {K : PySem.W.Frag} {H H' : Hp} (e : Ex H H') : ∀ (ds : List PyData) (vs : List V), DpAll K H vs ds → DpAll K H' vs ds
  | [], _, h => by
    cases h
    exact .nil
  | d :: ds, _, h => by
    cases h with
    | cons h1 h2 => exact .cons (dp_ex e d _ h1) (dps_ex e ds _ h2)
end
theorem Dp.ex {K : PySem.W.Frag} {H H' : Hp} {d : PyData} {v : V} (h : Dp K H v d) (e : Ex H H') : Dp K H' v d := dp_ex e d v h
theorem DpAll.ex {K : PySem.W.Frag} {H H' : Hp} {ds : List PyData} {vs : List V} (h : DpAll K H vs ds) (e : Ex H H') : DpAll K H' vs ds := dps_ex e ds vs h
theorem dp_ints {K : PySem.W.Frag} {H : Hp} : ∀ ns : List Int, DpAll K H (ns.map V.int) (ns.map PyData.int)
  | [] => .nil
  | n :: r => .cons (.int n) (dp_ints r)
theorem dp_strs {K : PySem.W.Frag} {H : Hp} : ∀ ns : List Str, DpAll K H (ns.map V.str) (ns.map PyData.str)
  | [] => .nil
  | n :: r => .cons (.str n) (dp_strs r)
theorem ints_dp {K : PySem.W.Frag} {H : Hp} : ∀ {ns : List Int} {vs : List V}, DpAll K H vs (ns.map PyData.int) → vs = ns.map V.int
  | [], _, .nil => rfl
  | _ :: r, _, .cons (.int _) h => by rw [ints_dp h] <;> rfl
theorem strs_dp {K : PySem.W.Frag} {H : Hp} : ∀ {ns : List Str} {vs : List V}, DpAll K H vs (ns.map PyData.str) → vs = ns.map V.str
  | [], _, .nil => rfl
  | _ :: r, _, .cons (.str _) h => by rw [strs_dp h] <;> rfl

/-! ### comprehensions -/
section
variable {J : It} {n : Nat} {Gd : Hp → Prop} {Y : Nat → Hp → V → Hp → Prop} {g : TG} {tt : TT} {te : TE} {vs : List Nat} {σ : L2.St} {H1 : Hp} {D : Addr} {Qd : Hp → Prop}
theorem range_fm (f : Nat → Option V) (i : Nat) : (List.range (i + 1)).filterMap f = (List.range i).filterMap f ++ (f i).toList := by
  rw [List.range_succ, List.filterMap_append]
  cases h : f i <;> simp [h]
theorem fm_len (f : Nat → Option V) (i : Nat) : ((List.range i).filterMap f).length ≤ i := by
  have := List.length_filterMap_le f (List.range i)
  rw [List.length_range] at this
  exact this
/-- the heap grows, f tells what is made at each turn -/
theorem lcE (w : Walk J n Gd Y) (f : Nat → Option V) (hD : H1 D = none) (hn : n < sizeLine) (hG : ∀ H, Ex H1 H → Gd H)
    (hs : ∀ i x H H' (R : V → Hp → Prop) (S : Hp → Prop), i < n → Ex H1 H → Y i H x H' → (∀ y H4, Ex H H4 → f i = some y → R y H4) → (∀ H3, Ex H H3 → f i = none → S H3) →
      g x (wipe σ vs) H' fun σ2 H2 => wipe σ2 vs = wipe σ vs ∧ tt σ2 H2 fun b H3 => if b = true then te σ2 H3 R else S H3)
    (hd : ∀ H, Ex H1 H → H D = some (.lst ((List.range n).filterMap f)) → Qd H) :
    ∃ W : Nat → Nat → Hp → Prop, (∃ m, W 0 m (upd H1 D (.lst []))) ∧ ∀ i m H, W i m H →
      (J.stop i H ∧ Qd H) ∨ (J.go i H ∧ ∃ Nx : Hp → Prop, (∀ H', Nx H' → ∃ m', m' < m ∧ W (i + 1) m' H') ∧ ∀ x H', J.yld i H x H' → g x (wipe σ vs) H' fun σ2 H2 => wipe σ2 vs = wipe σ vs ∧ tt σ2 H2 fun b H3 =>
        if b = true then te σ2 H3 fun y H4 => ∃ acc, H4 D = some (.lst acc) ∧ acc.length < sizeLine ∧ Nx (upd H4 D (.lst (acc ++ [y]))) else Nx H3) := by
  have up : ∀ {H : Hp} {o : HO}, Ex H1 H → Ex H1 (upd H D o) := fun {H o} e x u hx => by
    rw [upd_ne (ne_of_none hx hD)]
    exact e x u hx
  refine lc_it (g := g) (tt := tt) (te := te) (vs := vs) (σ := σ) (H1 := H1) (D := D) (Qd := Qd) w (fun i H => Ex H1 H ∧ H D = some (.lst ((List.range i).filterMap f)))
    ⟨up (Ex.refl H1), by rw [upd_same] <;> rfl⟩ (fun i H _ p => hG H p.1) (fun i x H H' hi p y => ?_) (fun H p => hd H p.1 p.2)
  obtain ⟨e, hl⟩ := p
  refine hs i x H H' _ _ hi e y (fun v H4 e4 ef => ⟨_, e4 D _ hl, Nat.lt_of_le_of_lt (fm_len f i) (Nat.lt_trans hi hn), up (e.trans e4), ?_⟩) fun H3 e3 ef => ⟨e.trans e3, ?_⟩
  · rw [upd_same, range_fm, ef] <;> rfl
  · rw [e3 D _ hl, range_fm, ef]
    simp
/-- the general one: what stands grows (G), something may change; R tells of turn, what stands, heap and list -/
theorem lcP {m : Option Addr} {G0 H0 G1 : Hp} (w : Walk J n Gd Y) (a : Gr m G0 H0 G1 H1) (hD : H1 D = none) (hm : ∀ x, m = some x → H1 x ≠ none) (hn : n < sizeLine) (R : Nat → Hp → Hp → List V → Prop)
    (hG : ∀ i G H acc, i ≤ n → Gr m G0 H0 G H → Ex G1 G → R i G H acc → Gd H) (h0 : R 0 G1 (upd H1 D (.lst [])) [])
    (hs : ∀ i x G H acc H' (N : V → Hp → Prop) (S : Hp → Prop), i < n → Gr m G0 H0 G H → Ex G1 G → G D = none → H D = some (.lst acc) → R i G H acc → Y i H x H' →
      (∀ y G4 H4, Gr m G0 H0 G4 H4 → Ex G1 G4 → G4 D = none → H4 D = some (.lst acc) → R (i + 1) G4 (upd H4 D (.lst (acc ++ [y]))) (acc ++ [y]) → N y H4) →
      (∀ G4 H4, Gr m G0 H0 G4 H4 → Ex G1 G4 → G4 D = none → H4 D = some (.lst acc) → R (i + 1) G4 H4 acc → S H4) →
      g x (wipe σ vs) H' fun σ2 H2 => wipe σ2 vs = wipe σ vs ∧ tt σ2 H2 fun b H3 => if b = true then te σ2 H3 N else S H3)
    (hd : ∀ G H acc, Gr m G0 H0 G H → Ex G1 G → G D = none → H D = some (.lst acc) → R n G H acc → Qd H) :
    ∃ W : Nat → Nat → Hp → Prop, (∃ m, W 0 m (upd H1 D (.lst []))) ∧ ∀ i m H, W i m H →
      (J.stop i H ∧ Qd H) ∨ (J.go i H ∧ ∃ Nx : Hp → Prop, (∀ H', Nx H' → ∃ m', m' < m ∧ W (i + 1) m' H') ∧ ∀ x H', J.yld i H x H' → g x (wipe σ vs) H' fun σ2 H2 => wipe σ2 vs = wipe σ vs ∧ tt σ2 H2 fun b H3 =>
        if b = true then te σ2 H3 fun y H4 => ∃ acc, H4 D = some (.lst acc) ∧ acc.length < sizeLine ∧ Nx (upd H4 D (.lst (acc ++ [y]))) else Nx H3) := by
  have d0 : H0 D = none := a.free hD hm
  have d1 : G1 D = none := back a.s hD
  refine lc_it (g := g) (tt := tt) (te := te) (vs := vs) (σ := σ) (H1 := H1) (D := D) (Qd := Qd) w (fun i H => ∃ G acc, acc.length ≤ i ∧ Gr m G0 H0 G H ∧ Ex G1 G ∧ G D = none ∧ H D = some (.lst acc) ∧ R i G H acc)
    ⟨G1, [], Nat.le_refl _, a.mut d0 d1, Ex.refl G1, d1, upd_same, h0⟩ (fun i H hi p => ?_) (fun i x H H' hi p y => ?_) (fun H p => ?_)
  · obtain ⟨G, acc, _, p1, p2, _, _, p3⟩ := p
    exact hG i G H acc hi p1 p2 p3
  · obtain ⟨G, acc, pl, p1, p2, p3, p4, p5⟩ := p
    exact hs i x G H acc H' _ _ hi p1 p2 p3 p4 p5 y (fun v G4 H4 q1 q2 q3 q4 q5 => ⟨acc, q4, by omega, G4, acc ++ [v], by rw [List.length_append]; exact Nat.succ_le_succ pl, q1.mut d0 q3, q2, q3, upd_same, q5⟩)
      fun G4 H4 q1 q2 q3 q4 q5 => ⟨G4, acc, Nat.le_succ_of_le pl, q1, q2, q3, q4, q5⟩
  · obtain ⟨G, acc, _, p1, p2, p3, p4, p5⟩ := p
    exact hd G H acc p1 p2 p3 p4 p5
theorem fm_const (v : V) (n : Nat) : (List.range n).filterMap (fun _ => some v) = List.replicate n v := by
  induction n with
  | zero => rfl
  | succ n ih => rw [range_fm, ih, List.replicate_succ'] <;> rfl
theorem all_rep (n : Nat) : (List.replicate n true).all id = true := by
  induction n with
  | zero => rfl
  | succ n ih => rw [List.replicate_succ, List.all_cons, ih] <;> rfl
theorem small_log {n : Nat} (h : n < 2 ^ 40) : n.log2 < 1920 := by
  rcases Nat.eq_zero_or_pos n with e | e
  · rw [e]
    decide
  · have := (Nat.log2_lt (by omega)).mpr h
    omega
theorem int_len {i : Int} (h : i.natAbs < 10 ^ 12) : (Str.ofString (toString i)).length ≤ 13 := PyData.shown_int_le h
/-! ### loops -/
theorem forE {D : Ends} {tb : TS} (w : Walk J n Gd Y) (Pv : Nat → L2.St → Hp → Prop) (h0 : Pv 0 σ H1) (hG : ∀ i σ H, i ≤ n → Pv i σ H → Gd H)
    (hs : ∀ i x σ H H' (N : L2.St → Hp → Prop), i < n → Pv i σ H → Y i H x H' → (∀ σ2 H2, Pv (i + 1) σ2 H2 → N σ2 H2) → g x σ H' fun σ2 H2 => tb { D with nx := N, ct := N, bk := D.nx } σ2 H2) (hd : ∀ σ H, Pv n σ H → D.nx σ H) :
    ∃ W : Nat → Nat → L2.St → Hp → Prop, (∃ m, W 0 m σ H1) ∧ ∀ i m σ H, W i m σ H →
      (J.stop i H ∧ D.nx σ H) ∨ (J.go i H ∧ ∃ N : L2.St → Hp → Prop, (∀ σ' H', N σ' H' → ∃ m', m' < m ∧ W (i + 1) m' σ' H') ∧ ∀ x H', J.yld i H x H' → g x σ H' fun σ2 H2 => tb { D with nx := N, ct := N, bk := D.nx } σ2 H2) :=
  for_it w Pv h0 hG (fun i x σ H H' hi p y => hs i x σ H H' _ hi p y fun _ _ q => q) hd
end
end BX
/-! answers -/
namespace BX
open PySem PySem.Spec PyProof.Rows L2
section
variable {K : PySem.W.Frag} {H : Hp} {Q : VK}
theorem ki_ii : PySem.W.kitOne K (.type "int") (.type "int") = some true := kit_ty (by decide +kernel)
theorem ki_ib : PySem.W.kitOne K (.type "int") (.type "bool") = some false := kit_ty (by decide +kernel)
theorem ki_ss : PySem.W.kitOne K (.type "str") (.type "str") = some true := kit_ty (by decide +kernel)
theorem ki_tt : PySem.W.kitOne K (.type "tuple") (.type "tuple") = some true := kit_ty (by decide +kernel)
theorem ki_dd : PySem.W.kitOne K (.type "dict") (.type "dict") = some true := kit_ty (by decide +kernel)
theorem ki_ll : PySem.W.kitOne K (.type "list") (.type "list") = some true := kit_ty (by decide +kernel)
theorem yes {σ : L2.St} {Q : Bool → Hp → Prop} (q : Q true H) : tYes σ H Q := q
theorem iteT {p : Prop} [Decidable p] {a b : Prop} (h : p) (x : a) : if p then a else b := by
  rw [if_pos h]
  exact x
theorem iteF {p : Prop} [Decidable p] {a b : Prop} (h : ¬ p) (x : b) : if p then a else b := by
  rw [if_neg h]
  exact x
end
/-- a list or a tuple is walked -/
def iSeq (K : PySem.W.Frag) (tl : TE) : TI := fun σ H R => tl σ H fun x H1 => ∃ a xs, x = .ref a ∧ (SqL K H1 a xs ∨ SqT K H1 a xs) ∧ ∀ J Gd, Walk J xs.length Gd (YAt xs) → (∀ H', Ex H1 H' → Gd H') → R J H1
theorem pi_seq {X : Cx} {tg l : Expr} {tl : TE} (hl : PE X l tl) : PI X tg l (iSeq X.K tl) := by
  refine ⟨fun pins s σ H R I h => thn (hl.run pins s σ H _ I h) fun v s1 ⟨x, H1, I1, r1, a, xs, e, hq, q⟩ => ?_⟩
  subst e
  cases r1
  have fr : H1 s1.heap.objs.size = none := I1.hok.fresh (Nat.le_refl _)
  rcases hq with hq | hq
  · obtain ⟨its, rv, p, hz⟩ := I1.list hq
    refine wpAny_pyIter_list p.isList ⟨s1.heap.objs.size, [s1.heap.objs.size], _, _, H1, rfl, I1.kept (t' := s1.toks) fun b o e => Heap.get?_push_of_some _ e, turn_list a _, ⟨_, Heap.get?_push_size _ rfl, rfl, rfl⟩, fun b hb => ?_, q _ _ walk_list fun H' e => ex_l e hq⟩
    obtain rfl : b = s1.heap.objs.size := by simpa using hb
    exact I1.fpOk (Nat.le_refl _) fr
  · obtain ⟨its, rv, p, hz⟩ := I1.tuple hq
    refine wpAny_pyIter_tuple (show s1.heap.IsTuple a its.toArray from p) ⟨s1.heap.objs.size, [s1.heap.objs.size], _, _, H1, rfl, I1.kept (t' := s1.toks) fun b o e => Heap.get?_push_of_some _ e, turn_tuple a _, ⟨_, Heap.get?_push_size _ rfl, rfl, rfl⟩, fun b hb => ?_, q _ _ walk_tup fun H' e => ex_t e hq⟩
    obtain rfl : b = s1.heap.objs.size := by simpa using hb
    exact I1.fpOk (Nat.le_refl _) fr
theorem kitA_l {K : PySem.W.Frag} : PySem.W.kitAny K (.type "list") [.type "list", .type "tuple"] = some true := kitAny_cons ki_ll (fun z => nomatch z) fun _ => rfl
theorem ki_tl {K : PySem.W.Frag} : PySem.W.kitOne K (.type "tuple") (.type "list") = some false := kit_ty (by decide +kernel)
theorem kitA_t {K : PySem.W.Frag} : PySem.W.kitAny K (.type "tuple") [.type "list", .type "tuple"] = some true := kitAny_cons ki_tl (fun _ => kitAny_cons ki_tt (fun z => nomatch z) fun _ => rfl) fun z => nomatch z
/-- the type of what is a tracked list or tuple -/
theorem ty_seq {K : PySem.W.Frag} {H : Hp} {a : Addr} {xs : List V} (h : H a = some (.lst xs) ∨ H a = some (.tup xs)) : ∃ t, TyX K H (.ref a) t ∧ PySem.W.kitAny K t [.type "list", .type "tuple"] = some true := by
  rcases h with h | h
  · exact ⟨_, .base (.lst h), kitA_l⟩
  · exact ⟨_, .base (.tup h), kitA_t⟩
def SeqAt (H : Hp) (a : Addr) (xs : List V) : Prop := H a = some (.lst xs) ∨ H a = some (.tup xs)
theorem SeqAt.q {K : PySem.W.Frag} {H : Hp} {a : Addr} {xs : List V} (h : SeqAt H a xs) : SqL K H a xs ∨ SqT K H a xs := by
  rcases h with h | h
  · exact .inl (sq_of h)
  · exact .inr (st_of h)
theorem SeqAt.ex {H H' : Hp} {a : Addr} {xs : List V} (h : SeqAt H a xs) (e : Ex H H') : SeqAt H' a xs := by
  rcases h with h | h
  · exact .inl (e _ _ h)
  · exact .inr (e _ _ h)
theorem inV_str (z : Str) (l : List Str) : inV (.str z) (l.map V.str) = decide (z ∈ l) := by
  unfold inV
  induction l with
  | nil => simp
  | cons a l ih =>
    rw [List.map_cons, List.any_cons, ih]
    by_cases e : a = z
    · simp [eqV, e]
    · have e2 : ¬ z = a := fun q => e q.symm
      simp [eqV, e, e2]
theorem inV_strs {z : Str} {l : List Str} (h : z ∈ l) : inV (.str z) (l.map V.str) = true := by
  rw [inV_str]
  exact decide_eq_true h
theorem flat_strs (l : List Str) : (l.map V.str).all flatV = true := by
  induction l with
  | nil => rfl
  | cons a l ih => rw [List.map_cons, List.all_cons, ih] <;> rfl
/-- all but x stays -/
def ExB (x : Addr) (H H' : Hp) : Prop := ∀ a o, a ≠ x → H a = some o → H' a = some o
theorem ExB.upd {x : Addr} {H H' : Hp} {o : HO} (h : ExB x H H') : ExB x H (L2.upd H' x o) := fun a u hx e => by
  rw [upd_ne hx]
  exact h a u hx e
theorem ExB.ex {x : Addr} {H H' H2 : Hp} (h : ExB x H H') (e : Ex H' H2) : ExB x H H2 := fun a u hx z => e _ _ (h a u hx z)
theorem Ex.exB {x : Addr} {H H' : Hp} (e : Ex H H') : ExB x H H' := fun a u _ z => e a u z
theorem ExB.trans {x : Addr} {H H' H2 : Hp} (h : ExB x H H') (e : ExB x H' H2) : ExB x H H2 := fun a u hx z => e _ _ hx (h a u hx z)
section
variable {P : Program} {w : World} {K : PySem.W.Frag} {mg : Str → Option Value} {base : Heap}
/-- a def with defaults, from its body -/
theorem fneB {x qual : Str} {st : Stmt} {f : Addr} {N ps : List Str} {k : Nat} {sp : Sp} {dv dvs : List V} {kws : List (Str × V)} (F : ∃ fd, FunD K x qual (defArgs st) (defBody st) (defScope st) dv kws f fd) (S : FnScope N ps (defScope st)) (len : ∀ vs H Q E, sp vs H Q E → vs.length = ps.length)
    (hb : ∀ fd, FunD K x qual (defArgs st) (defBody st) (defScope st) dv kws f fd → ∃ ds, Vals dvs ds ∧ Binds K fd ps ds)
    (hbody : ∀ (cdv : Value) (A : Around) (outer : List Env) (s : Shared) (H : Hp) (vs : List V) (Q : VK) (E : XK), Room k (A.deeper (envOfC qual (defScope st) s.heap.objs.size f cdv)) → sp vs H Q E →
      ∃ t, PSs (cxOf CX0 P w K mg base N qual (defScope st) f cdv A outer s H E).nox (defBody st) t ∧ t { nx := fun _ H' => Q .non H', rt := Q } (start N vs) H) : FnE P w K mg base (k + 1) f ps dvs sp := by
  obtain ⟨fd, F⟩ := F
  obtain ⟨ds, d1, d2⟩ := hb fd F
  refine ⟨⟨fd, ds, F.ok S len fun cdv A outer s H vs Q E hr h => ?_, d2, d1⟩, F.kp⟩
  obtain ⟨t, h1, h2⟩ := hbody cdv A outer s H vs Q E hr h
  exact ⟨t, h1.nox, h2⟩
end
/-- of a def of which nothing is asked -/
theorem fneF {P : Program} {w : World} {K : PySem.W.Frag} {mg : Str → Option Value} {base : Heap} {x qual : Str} {st : Stmt} {f : Addr} {ps : List Str} {k : Nat} {sp : Sp} (F : ∃ fd, FunD K x qual (defArgs st) (defBody st) (defScope st) [] [] f fd) (no : ∀ vs H Q E, sp vs H Q E → False)
    (hb : ∀ (kV doc pm : Value) (an : Option Addr) (cdv ct : Value) (us : List Value), us.length = ps.length → bindArgs (PySem.W.fnOf x qual (defArgs st) (defBody st) (defScope st) .none kV doc pm an cdv ct) ⟨us, []⟩ = pure (ps.zip us)) : FnE P w K mg base k f ps [] sp := by
  obtain ⟨fd, F⟩ := F
  exact ⟨⟨fd, [], ⟨fun vs H Q E h => (no _ _ _ _ h).elim, fun A outer s H args us vs Q E _ _ _ _ h => (no _ _ _ _ h).elim⟩, F.bindsN hb, .nil⟩, F.kp⟩
/-- what a list gives, item by item -/
theorem fm_list {α : Type} (h : α → Option V) : ∀ (l : List α), (List.range l.length).filterMap (fun i => (l[i]?).bind h) = l.filterMap h := by
  intro l
  have key : ∀ k, k ≤ l.length → (List.range k).filterMap (fun i => (l[i]?).bind h) = (l.take k).filterMap h := by
    intro k
    induction k with
    | zero => intro _; rfl
    | succ k ih =>
      intro hk
      have hk2 : k < l.length := hk
      rw [range_fm, ih (Nat.le_of_succ_le hk), List.take_succ, List.filterMap_append, List.getElem?_eq_getElem hk2]
      cases e : h l[k] <;> simp [e]
  have z := key l.length (Nat.le_refl _)
  rw [List.take_length] at z
  exact z
theorem fm_map {α : Type} (h : α → V) (l : List α) : (List.range l.length).filterMap (fun i => (l[i]?).map h) = l.map h := by
  have z := fm_list (fun a => some (h a)) l
  rw [show l.filterMap (fun a => some (h a)) = l.map h by induction l with
    | nil => rfl
    | cons a l ih => simp] at z
  rw [← z]
  congr 1
  funext i
  cases l[i]? <;> rfl
theorem fm_if {α : Type} (p : α → Prop) [DecidablePred p] (f : α → V) (l : List α) : l.filterMap (fun a => if p a then some (f a) else none) = (l.filter (fun a => decide (p a))).map f := by
  induction l with
  | nil => rfl
  | cons a l ih => by_cases e : p a <;> simp [e, ih]
theorem szl {α : Type} {l : List α} (h : l.length ≤ 20) : l.length ≤ sizeLine := sz_of (by omega)
end BX
/-! the mathematics: words -/
namespace BX
open PySem
def gN (l : List Int) (k : Nat) : Int := l.getD k 0
def ordersM : List (List Nat) := [[0, 1, 2], [0, 2, 1], [1, 0, 2], [1, 2, 0], [2, 0, 1], [2, 1, 0]]
def turnM (l : List Int) (o : List Nat) : List Int := o.map (gN l)
def besideM (f s : List Int) (ax : Nat) : List Int := [if ax = 0 then gN f 0 + gN s 0 else max (gN f 0) (gN s 0), if ax = 1 then gN f 1 + gN s 1 else max (gN f 1) (gN s 1), if ax = 2 then gN f 2 + gN s 2 else max (gN f 2) (gN s 2)]
/-- a laying, as told -/
inductive Pap
  | one (n : Str) (o : List Nat)
  | by (ax : Nat) (a b : Pap)
def gO (l : List Nat) (k : Nat) : Nat := l.getD k 0
def turnP (o : List Nat) : Pap → Pap
  | .one n o' => .one n (o.map (gO o'))
  | .by ax a b => .by (o.idxOf ax) (turnP o a) (turnP o b)
def ordD (o : List Nat) : PyData := .tuple (o.map fun k => .int (k : Nat))
def papD : Pap → PyData
  | .one n o => .tuple [.str "one", .str n, ordD o]
  | .by ax a b => .tuple [.str "by", .int (ax : Nat), papD a, papD b]
/-- well made: its orders are orders, its axes axes -/
def papOk : Pap → Prop
  | .one _ o => o ∈ ordersM
  | .by ax a b => ax < 3 ∧ papOk a ∧ papOk b
def papDep : Pap → Nat
  | .one _ _ => 1
  | .by _ a b => max (papDep a) (papDep b) + 1
/-- the names laid, in the laying's own order -/
def papN : Pap → List Str
  | .one n _ => [n]
  | .by _ a b => papN a ++ papN b
theorem turnP_dep (o : List Nat) : ∀ p, papDep (turnP o p) = papDep p
  | .one _ _ => rfl
  | .by _ a b => by
    show max (papDep (turnP o a)) (papDep (turnP o b)) + 1 = _
    rw [turnP_dep o a, turnP_dep o b] <;> rfl
theorem turnP_names (o : List Nat) : ∀ p, papN (turnP o p) = papN p
  | .one _ _ => rfl
  | .by _ a b => by
    show papN (turnP o a) ++ papN (turnP o b) = _
    rw [turnP_names o a, turnP_names o b] <;> rfl
theorem orders_len : ∀ o ∈ ordersM, o.length = 3 := by decide
theorem orders_lt : ∀ o ∈ ordersM, ∀ k ∈ o, k < 3 := by decide
theorem orders_mul : ∀ o ∈ ordersM, ∀ o' ∈ ordersM, o.map (gO o') ∈ ordersM := by decide
theorem orders_idx : ∀ o ∈ ordersM, ∀ k, k < 3 → o.idxOf k < 3 := by decide
theorem orders_has : ∀ o ∈ ordersM, ∀ k, k < 3 → k ∈ o := by decide
theorem turnP_ok {o : List Nat} (ho : o ∈ ordersM) : ∀ p, papOk p → papOk (turnP o p)
  | .one _ o', h => orders_mul o ho o' h
  | .by ax a b, ⟨h1, h2, h3⟩ => ⟨orders_idx o ho ax h1, turnP_ok ho a h2, turnP_ok ho b h3⟩
/-- each of the one's at most the other's -/
def leM (f g : List Int) : Bool := [decide (gN f 0 ≤ gN g 0), decide (gN f 1 ≤ gN g 1), decide (gN f 2 ≤ gN g 2)].all id
abbrev Ld : Type := Pap × List Int
def heldM (ls : List Ld) (three : List Int) : Bool := ls.any fun x => leM (srtI true x.2) (srtI true three)
abbrev Way : Type := List Nat × Nat × List Int
def ways3 (f s : List Int) (o : List Nat) : List Way := (List.range 3).map fun ax => (o, ax, besideM f (turnM s o) ax)
def waysM (f s : List Int) : List Way := ordersM.flatMap (ways3 f s)
def stepM (x y : Ld) (ls : List Ld) (w : Way) : List Ld :=
  if heldM ls w.2.2 then ls else ls.filter (fun z => !leM (srtI true w.2.2) (srtI true z.2)) ++ [(.by w.2.1 x.1 (turnP w.1 y.1), w.2.2)]
def withM (ls : List Ld) (x y : Ld) : List Ld := (waysM x.2 y.2).foldl (stepM x y) ls
theorem stepM_len (x y : Ld) (ls : List Ld) (w : Way) : (stepM x y ls w).length ≤ ls.length + 1 := by
  unfold stepM
  split
  · omega
  · rw [List.length_append]
    have := List.length_filter_le (fun z : Ld => !leM (srtI true w.2.2) (srtI true z.2)) ls
    simp only [List.length_cons, List.length_nil]
    omega
theorem fold_len (x y : Ld) : ∀ (ws : List Way) (ls : List Ld), (ws.foldl (stepM x y) ls).length ≤ ls.length + ws.length
  | [], ls => by simp
  | w :: ws, ls => by
    have h1 := fold_len x y ws (stepM x y ls w)
    have h2 := stepM_len x y ls w
    rw [List.foldl_cons, List.length_cons]
    omega
theorem waysM_len (f s : List Int) : (waysM f s).length = 18 := by
  unfold waysM ordersM ways3
  simp
theorem withM_len (ls : List Ld) (x y : Ld) : (withM ls x y).length ≤ ls.length + 18 := by
  have h := fold_len x y (waysM x.2 y.2) ls
  rw [waysM_len] at h
  exact h
end BX
/-! the walks: leaves -/
namespace BX
open PySem PySem.Spec PyProof.Rows L2
def sp_is_whole (K : PySem.W.Frag) : Sp := spN 3 fun vs H Q _ => ∃ i lo hi : Int, vs = [.int i, .int lo, .int hi] ∧ lo ≤ i ∧ i ≤ hi ∧ Q (.bl true) H
abbrev N_is_whole : List Str := ["thing", "low", "high"]
theorem sc_is_whole : FnScope N_is_whole ["thing", "low", "high"] (defScope s_is_whole) := ⟨rfl, rfl, rfl, by decide +kernel, rfl, by decide +kernel, by decide +kernel⟩
theorem w_is_whole {P : Program} {w : World} {K : PySem.W.Frag} {mg : Str → Option Value} {base : Heap} (T : Tp K mg)  : FnE P w K mg base 1 (He.ga K "is_whole") ["thing", "low", "high"] [] (sp_is_whole K) := by
  refine fne T.f_is_whole sc_is_whole (fun _ _ _ _ h => h.1) (fun _ _ _ _ _ _ us hl => match us, hl with | [_, _, _], _ => rfl) fun cdv A outer s H vs Q E hr hsp => ?_
  have nd := sc_is_whole.nd
  refine ⟨_, (pss_one (ps_ret (pe_and (pe_callB (r := rIsi K) call_isi (by rfl) T.z_isinstance (by decide +kernel) (pa_cons (pv 0) (pa_cons (pty (n := "int") T.z_int) pa_nil))) (pe_and (pe_not (pe_callB (r := rIsi K) call_isi (by rfl) T.z_isinstance (by decide +kernel) (pa_cons (pv 0) (pa_cons (pty (n := "bool") T.z_bool) pa_nil)))) (pe_one (pe_chain op_le op_le (pv 1) (pv 0) (pv 2))))))), ?_⟩
  replace hsp := hsp.2
  obtain ⟨i, lo, hi, rfl, h1, h2, q⟩ := hsp
  refine ⟨_, rfl, _, _, _, _, true, rfl, .ty _, .base (.int _), ki_ii, _, rfl, iteT rfl ?_⟩
  refine ⟨_, rfl, _, _, _, _, false, rfl, .ty _, .base (.int _), ki_ib, _, rfl, _, rfl, iteT rfl ?_⟩
  refine ⟨_, rfl, _, rfl, _, _, rfl, rfl, _, rfl, iteT (decide_eq_true h1) ⟨_, rfl, _, _, rfl, rfl, ?_⟩⟩
  show Q (.bl (decide (i ≤ hi))) H
  rw [decide_eq_true h2]
  exact q
def lettersS : Str := "abcdefghijklmnopqrstuvwxyz"
/-- a name: one to eight small letters -/
def IsName (z : Str) : Prop := 1 ≤ z.length ∧ z.length ≤ 8 ∧ ∀ c ∈ z.cps.toList, c ∈ lettersS.cps.toList
def sp_is_name (K : PySem.W.Frag) : Sp := spN 1 fun vs H Q _ => ∃ z : Str, vs = [.str z] ∧ IsName z ∧ ∀ H', Ex H H' → Q (.bl true) H'
abbrev N_is_name : List Str := ["thing", "sign"]
theorem sc_is_name : FnScope N_is_name ["thing"] (defScope s_is_name) := ⟨rfl, rfl, rfl, by decide +kernel, rfl, by decide +kernel, by decide +kernel⟩
theorem w_is_name {P : Program} {w : World} {K : PySem.W.Frag} {mg : Str → Option Value} {base : Heap} (T : Tp K mg)  : FnE P w K mg base 1 (He.ga K "is_name") ["thing"] [] (sp_is_name K) := by
  refine fne T.f_is_name sc_is_name (fun _ _ _ _ h => h.1) (fun _ _ _ _ _ _ us hl => match us, hl with | [_], _ => rfl) fun cdv A outer s H vs Q E hr hsp => ?_
  have nd := sc_is_name.nd
  refine ⟨_, (pss_cons (ps_if (PW.pt (pw_or (pt_not (pt_val (pe_callB (r := rIsi K) call_isi (by rfl) T.z_isinstance (by decide +kernel) (pa_cons (pv 0) (pa_cons (pty (n := "str") T.z_str) pa_nil))))) (pw_or1 (pt_not (pt_chain op_le op_le pe_int (pe_callB cLenS (by rfl) T.z_len (by decide +kernel) (pa_cons (pv 0) pa_nil)) pe_int))))) (pss_one (ps_ret pe_bl)) pss_nil)
      (pss_one (ps_ret (pe_callB (r := rAll K) (cr_all rfl) (by rfl) T.z_all (by decide +kernel) (pa_cons (pe_lc (own := [("sign", 1)]) (g := gName 1) rfl nd (pi_str (pv 0)) (blkOk_by (N := N_is_name) (sc := defScope s_is_name) (by decide +kernel)) (fun _ _ _ _ _ => (pgn 1 nd)) (fun _ _ _ _ _ => pts_nil) (fun _ _ _ _ _ => (pe_cmpR op_in_sign (pv 1) (pgs T.i_LETTERS) (by rfl)))) pa_nil))))), ?_⟩
  replace hsp := hsp.2
  obtain ⟨z, rfl, h, q⟩ := hsp
  obtain ⟨h1, h2, h3⟩ := h
  have l1 : ((1 : Int) ≤ (z.length : Nat)) := by omega
  have l2 : (((z.length : Nat) : Int) ≤ 8) := by omega
  refine ⟨_, rfl, _, _, _, _, true, rfl, .ty _, .base (.str _), ki_ss, _, rfl, iteF (by decide) ?_⟩
  refine ⟨_, rfl, z, rfl, sz_of (by omega), _, _, rfl, rfl, _, rfl, iteT (decide_eq_true l1) ⟨_, _, rfl, rfl, _, rfl, ?_⟩⟩
  refine iteF (by simp [l2]) ?_
  refine ⟨_, rfl, z, rfl, fun D hD => lcE walk_str (fun _ => some (.bl true)) hD (sz_lt (by have h4 : z.cps.size ≤ 8 := h2; show z.cps.size < 1000000; omega)) (fun _ _ => trivial) (fun i x H1 H2 R S hi e y k1 k2 => ?_) fun H1 e hl => ?_⟩
  · obtain ⟨rfl, c, hc, rfl⟩ := y
    refine ⟨rfl, yes (iteT rfl ⟨_, rfl, c, _, rfl, rfl, k1 _ _ (Ex.refl _) ?_⟩)⟩
    exact congrArg (fun b => some (V.bl b)) (decide_eq_true (h3 c (Array.mem_toList_iff.mpr (Array.mem_of_getElem? hc)))).symm
  · rw [fm_const] at hl
    exact ⟨_, List.replicate z.cps.size true, rfl, sq_of (by rw [List.map_replicate]; exact hl), by rw [all_rep]; exact q _ e⟩
/-! ### Sides -/
abbrev cS (K : PySem.W.Frag) : Addr := He.ga K "Sides"
abbrev cP (K : PySem.W.Frag) : Addr := He.ga K "Parcel"
abbrev cH (K : PySem.W.Frag) : Addr := He.ga K "Heap"
abbrev cL (K : PySem.W.Frag) : Addr := He.ga K "Laid"
def SidesAt (K : PySem.W.Frag) (G : Hp) (a : Addr) (three : List Int) : Prop := ∃ dx t, G a = some (.ins (cS K) dx [("three", .ref t)]) ∧ G t = some (.tup (three.map V.int)) ∧ three.length = 3
theorem SidesAt.ex {K : PySem.W.Frag} {G G' : Hp} {a : Addr} {three : List Int} (h : SidesAt K G a three) (e : Ex G G') : SidesAt K G' a three :=
  let ⟨dx, t, h1, h2, h3⟩ := h
  ⟨dx, t, e _ _ h1, e _ _ h2, h3⟩
/-- a list of three -/
theorem three_of {l : List Int} (h : l.length = 3) : ∃ a b c, l = [a, b, c] := by
  match l, h with
  | [a, b, c], _ => exact ⟨a, b, c, rfl⟩
def sp_Sides_init (K : PySem.W.Frag) : Sp := spN 4 fun vs H Q _ => ∃ (x dx : Addr) (a b c : Int), vs = [.ref x, .int a, .int b, .int c] ∧ H x = some (.ins (cS K) dx []) ∧ (1 ≤ a ∧ a ≤ 100000) ∧ (1 ≤ b ∧ b ≤ 100000) ∧ (1 ≤ c ∧ c ≤ 100000) ∧
  ∀ t H2, H t = none → ExB x H H2 → H2 t = some (.tup [.int a, .int b, .int c]) → H2 x = some (.ins (cS K) dx [("three", .ref t)]) → Q .non H2
abbrev N_Sides_init : List Str := ["self", "one", "other", "third", "side"]
theorem sc_Sides_init : FnScope N_Sides_init ["self", "one", "other", "third"] (defScope s_Sides_init) := ⟨rfl, rfl, rfl, by decide +kernel, rfl, by decide +kernel, by decide +kernel⟩
theorem w_Sides_init {P : Program} {w : World} {K : PySem.W.Frag} {mg : Str → Option Value} {base : Heap} (T : Tp K mg) (F_is_whole : FnE P w K mg base 1 (He.ga K "is_whole") ["thing", "low", "high"] [] (sp_is_whole K)) : FnE P w K mg base 2 (He.ma K (He.ga K "Sides") "__init__") ["self", "one", "other", "third"] [] (sp_Sides_init K) := by
  refine fne T.f_Sides_init sc_Sides_init (fun _ _ _ _ h => h.1) (fun _ _ _ _ _ _ us hl => match us, hl with | [_, _, _, _], _ => rfl) fun cdv A outer s H vs Q E hr hsp => ?_
  have nd := sc_Sides_init.nd
  refine ⟨_, (pss_cons (ps_for PassesOwn.never rfl (pi_tup (pe_tup (pa_cons (pv 1) (pa_cons (pv 2) (pa_cons (pv 3) pa_nil)))) : PI _ _ _ (iTup K _)) (pgn 4 nd) (pss_one (ps_if (pt_not (pt_val (pcall F_is_whole (hr.mono (by decide)) T.g_is_whole (pa_cons (pv 4) (pa_cons pe_int (pa_cons (pgi T.i_MOST_SIDE) pa_nil)))))) pss_never pss_nil)))
      (pss_one (ps_fld (pv 0) (pe_tup (pa_cons (pv 1) (pa_cons (pv 2) (pa_cons (pv 3) pa_nil)))) rfl : PS _ _ (sFld K _ _ _)))), ?_⟩
  replace hsp := hsp.2
  obtain ⟨x, dx, a, b, c, rfl, hx, ha, hb, hc, q⟩ := hsp
  refine ⟨_, rfl, _, rfl, _, rfl, szl (by simp), fun t ht => ⟨t, rfl, ⟨_, st_of upd_same⟩, forE (walk_tup (xs := [.int a, .int b, .int c])) (fun i σ H' => ∃ o, σ = [some (.ref x), some (.int a), some (.int b), some (.int c), o] ∧ H' = upd H t (.tup [.int a, .int b, .int c])) ⟨none, rfl, rfl⟩ (fun i σ H' _ p => ?_) (fun i y σ H1 H2 N hi p hy k => ?_) fun σ H' p => ?_⟩⟩
  · obtain ⟨o, _, rfl⟩ := p
    exact st_of upd_same
  · obtain ⟨o, rfl, rfl⟩ := p
    obtain ⟨rfl, hy⟩ := hy
    have hj : ∃ j : Int, y = .int j ∧ 1 ≤ j ∧ j ≤ 100000 := by
      have := List.mem_of_getElem? hy
      simp only [List.mem_cons, List.not_mem_nil, or_false] at this
      rcases this with r | r | r
      · exact ⟨_, r, ha.1, ha.2⟩
      · exact ⟨_, r, hb.1, hb.2⟩
      · exact ⟨_, r, hc.1, hc.2⟩
    obtain ⟨j, rfl, h1, h2⟩ := hj
    exact ⟨_, rfl, rfl, j, 1, 100000, rfl, h1, h2, _, rfl, iteF (by decide) (k _ _ ⟨_, rfl, rfl⟩)⟩
  · obtain ⟨o, rfl, rfl⟩ := p
    have e : Ex H (upd H t (.tup [.int a, .int b, .int c])) := Ex.new ht
    refine ⟨_, rfl, _, rfl, _, rfl, szl (by simp), fun t2 ht2 => ⟨_, rfl, x, _, dx, _, rfl, (e.trans (Ex.new ht2)) _ _ hx, T.c_Sides, T.n_Sides_three, by decide, ?_⟩⟩
    have n2 : H t2 = none := back e ht2
    have ne : t2 ≠ x := fun z => by
      rw [z, hx] at n2
      cases n2
    exact q t2 _ n2 (e.trans (Ex.new ht2)).exB.upd (by rw [upd_ne ne, upd_same]) upd_same
def sp_Sides_told (K : PySem.W.Frag) : Sp := spN 1 fun vs H Q _ => ∃ (x dx t : Addr), vs = [.ref x] ∧ H x = some (.ins (cS K) dx [("three", .ref t)]) ∧ Q (.ref t) H
abbrev N_Sides_told : List Str := ["self"]
theorem sc_Sides_told : FnScope N_Sides_told ["self"] (defScope s_Sides_told) := ⟨rfl, rfl, rfl, by decide +kernel, rfl, by decide +kernel, by decide +kernel⟩
theorem w_Sides_told {P : Program} {w : World} {K : PySem.W.Frag} {mg : Str → Option Value} {base : Heap} (T : Tp K mg)  : FnE P w K mg base 1 (He.ma K (He.ga K "Sides") "told") ["self"] [] (sp_Sides_told K) := by
  refine fne T.f_Sides_told sc_Sides_told (fun _ _ _ _ h => h.1) (fun _ _ _ _ _ _ us hl => match us, hl with | [_], _ => rfl) fun cdv A outer s H vs Q E hr hsp => ?_
  have nd := sc_Sides_told.nd
  refine ⟨_, (pss_one (ps_ret (pe_fld (pv 0) rfl : PE _ _ (tFld K _ _)))), ?_⟩
  replace hsp := hsp.2
  obtain ⟨x, dx, t, rfl, hx, q⟩ := hsp
  exact ⟨_, rfl, _, _, _, _, _, rfl, hx, T.c_Sides, T.n_Sides_three, rfl, q⟩
def sp_Sides_ranked (K : PySem.W.Frag) : Sp := spN 1 fun vs H Q _ => ∃ (x : Addr) (three : List Int), vs = [.ref x] ∧ SidesAt K H x three ∧ ∀ t H', Ex H H' → H' t = some (.tup ((srtI true three).map V.int)) → Q (.ref t) H'
abbrev N_Sides_ranked : List Str := ["self"]
theorem sc_Sides_ranked : FnScope N_Sides_ranked ["self"] (defScope s_Sides_ranked) := ⟨rfl, rfl, rfl, by decide +kernel, rfl, by decide +kernel, by decide +kernel⟩
theorem w_Sides_ranked {P : Program} {w : World} {K : PySem.W.Frag} {mg : Str → Option Value} {base : Heap} (T : Tp K mg)  : FnE P w K mg base 1 (He.ma K (He.ga K "Sides") "ranked") ["self"] [] (sp_Sides_ranked K) := by
  refine fne T.f_Sides_ranked sc_Sides_ranked (fun _ _ _ _ h => h.1) (fun _ _ _ _ _ _ us hl => match us, hl with | [_], _ => rfl) fun cdv A outer s H vs Q E hr hsp => ?_
  have nd := sc_Sides_ranked.nd
  refine ⟨_, (pss_one (ps_ret (pe_callTy (r := rTupQ K) cTupQ (by rfl) T.z_tuple (by decide +kernel) (pa_cons (pe_callBK (r := rSrtR K) (cSrtR (hu64 hr)) (by rfl) T.z_sorted (by decide +kernel) (pa_cons (pe_fld (pv 0) rfl : PE _ _ (tFld K _ _)) pa_nil) (pk_cons pe_bl pk_nil)) pa_nil)))), ?_⟩
  replace hsp := hsp.2
  obtain ⟨x, three, rfl, ⟨dx, t, hx, ht, hl⟩, q⟩ := hsp
  refine ⟨_, rfl, _, _, _, _, _, rfl, hx, T.c_Sides, T.n_Sides_three, rfl, t, three, rfl, rfl, .inr (st_of ht), fun p hp => ⟨p, _, rfl, .inl ⟨sq_of upd_same, fun p2 hp2 => ?_⟩⟩⟩
  exact q p2 _ ((Ex.new hp).trans (Ex.new hp2)) upd_same
/-- str of sides -/
def strS (three : List Int) : Str := Txt.join " x " (three.map fun i => Str.ofString (toString i))
def sp_Sides_str (K : PySem.W.Frag) : Sp := spN 1 fun vs H Q _ => ∃ (x : Addr) (three : List Int), vs = [.ref x] ∧ SidesAt K H x three ∧ (∀ i ∈ three, 1 ≤ i ∧ i ≤ 100000) ∧ ∀ H', Ex H H' → Q (.str (strS three)) H'
abbrev N_Sides_str : List Str := ["self", "side"]
theorem sc_Sides_str : FnScope N_Sides_str ["self"] (defScope s_Sides_str) := ⟨rfl, rfl, rfl, by decide +kernel, rfl, by decide +kernel, by decide +kernel⟩
theorem w_Sides_str {P : Program} {w : World} {K : PySem.W.Frag} {mg : Str → Option Value} {base : Heap} (T : Tp K mg)  : FnE P w K mg base 1 (He.ma K (He.ga K "Sides") "__str__") ["self"] [] (sp_Sides_str K) := by
  refine fne T.f_Sides_str sc_Sides_str (fun _ _ _ _ h => h.1) (fun _ _ _ _ _ _ us hl => match us, hl with | [_], _ => rfl) fun cdv A outer s H vs Q E hr hsp => ?_
  have nd := sc_Sides_str.nd
  refine ⟨_, (pss_one (ps_ret (pe_join pe_str (pe_lc (own := [("side", 1)]) (g := gName 1) rfl nd (pi_tup (pe_fld (pv 0) rfl : PE _ _ (tFld K _ _)) : PI _ _ _ (iTup K _)) (blkOk_by (N := N_Sides_str) (sc := defScope s_Sides_str) (by decide +kernel)) (fun _ _ _ _ _ => (pgn 1 nd)) (fun _ _ _ _ _ => pts_nil) (fun _ _ _ _ _ => (pe_callTy (r := rStrI) cStrI (by rfl) T.z_str (by decide +kernel) (pa_cons (pv 1) pa_nil)))) : PE _ _ (tJoin K _ _)))), ?_⟩
  replace hsp := hsp.2
  obtain ⟨x, three, rfl, ⟨dx, t, hx, ht, hl⟩, hb, q⟩ := hsp
  obtain ⟨a, b, c, rfl⟩ := three_of hl
  have lg : ∀ i : Int, i ∈ [a, b, c] → i.natAbs.log2 < 1920 := fun i hi => small_log (by have := hb i hi; omega)
  refine ⟨⟨_, rfl⟩, _, rfl, _, _, _, _, _, rfl, hx, T.c_Sides, T.n_Sides_three, rfl, t, rfl, ⟨_, st_of ht⟩, fun D hD => lcE (walk_tup (xs := [a, b, c].map V.int)) (fun i => ([a, b, c][i]?).map fun i => .str (Str.ofString (toString i))) hD (sz_lt (by simp)) (fun H1 e => st_of (e _ _ ht)) (fun i y H1 H2 R S hi e hy k1 k2 => ?_) fun H1 e hl => ?_⟩
  · obtain ⟨rfl, hy⟩ := hy
    rw [List.getElem?_map] at hy
    obtain ⟨j, hj, rfl⟩ := Option.map_eq_some_iff.mp hy
    exact ⟨rfl, yes (iteT rfl ⟨_, rfl, j, rfl, lg j (List.mem_of_getElem? hj), k1 _ _ (Ex.refl _) (by rw [hj] <;> rfl)⟩)⟩
  · refine ⟨_, _, [Str.ofString (toString a), Str.ofString (toString b), Str.ofString (toString c)], rfl, rfl, .inl (sq_of hl), ?_, q _ e⟩
    have := int_len (i := a) (by have := hb a (by simp); omega)
    have := int_len (i := b) (by have := hb b (by simp); omega)
    have := int_len (i := c) (by have := hb c (by simp); omega)
    show (Str.ofString (toString a)).length + ((Str.ofString (toString b)).length + ((Str.ofString (toString c)).length + 0)) + 3 * (Str.ofString " x ").length ≤ 16777216
    have : (Str.ofString " x ").length = 3 := by decide +kernel
    omega
/-! ### labels -/
def labelsL : List Str := ["alone", "top", "upright"]
theorem SqT_labels {K : PySem.W.Frag} {mg : Str → Option Value} (T : Tp K mg) (H : Hp) : SqT K H (He.ga K "LABELS") (labelsL.map V.str) := He.tupB_ok (He.ba (He.ba (He.ba T.more).2).2).1 H
/-- None, or some of the labels -/
def LabsAt (H : Hp) (v : V) (ls : Option (List Str)) : Prop := match ls with
  | none => v = .non
  | some l => ∃ p, v = .ref p ∧ SeqAt H p (l.map V.str) ∧ l.Nodup ∧ l.length ≤ 3 ∧ ∀ x ∈ l, x ∈ labelsL
def sp_are_labels (K : PySem.W.Frag) : Sp := spN 1 fun vs H Q _ => ∃ v ls, vs = [v] ∧ LabsAt H v ls ∧ ∀ H', Ex H H' → Q (.bl true) H'
abbrev N_are_labels : List Str := ["thing", "word"]
theorem sc_are_labels : FnScope N_are_labels ["thing"] (defScope s_are_labels) := ⟨rfl, rfl, rfl, by decide +kernel, rfl, by decide +kernel, by decide +kernel⟩
theorem w_are_labels {P : Program} {w : World} {K : PySem.W.Frag} {mg : Str → Option Value} {base : Heap} (T : Tp K mg)  : FnE P w K mg base 1 (He.ga K "are_labels") ["thing"] [] (sp_are_labels K) := by
  refine fne T.f_are_labels sc_are_labels (fun _ _ _ _ h => h.1) (fun _ _ _ _ _ _ us hl => match us, hl with | [_], _ => rfl) fun cdv A outer s H vs Q E hr hsp => ?_
  have nd := sc_are_labels.nd
  refine ⟨_, (pss_cons (ps_if (pt_cmpR op_isN (pv 0) pe_non (nomark _)) (pss_one (ps_ret pe_bl)) pss_nil)
      (pss_cons (ps_if (PW.pt (pw_or (pt_not (pt_val (pe_callB (r := rIsiT K) call_isiT (by rfl) T.z_isinstance (by decide +kernel) (pa_cons (pv 0) (pa_cons (pe_tup (pa_cons (pty (n := "list") T.z_list) (pa_cons (pty (n := "tuple") T.z_tuple) pa_nil))) pa_nil))))) (pw_or1 (pt_cmpR op_gt (pe_callB (r := rLenQ K) cLenQ (by rfl) T.z_len (by decide +kernel) (pa_cons (pv 0) pa_nil)) (pe_callB (r := rLenQ K) cLenQ (by rfl) T.z_len (by decide +kernel) (pa_cons (pgr T.g_LABELS) pa_nil)) (nomark _))))) (pss_one (ps_ret pe_bl)) pss_nil)
      (pss_cons (ps_if (pt_not (pt_val (pe_callB (r := rAll K) (cr_all rfl) (by rfl) T.z_all (by decide +kernel) (pa_cons (pe_lc (own := [("word", 1)]) (g := gName 1) rfl nd (pi_seq (pv 0) : PI _ _ _ (iSeq K _)) (blkOk_by (N := N_are_labels) (sc := defScope s_are_labels) (by decide +kernel)) (fun _ _ _ _ _ => (pgn 1 nd)) (fun _ _ _ _ _ => pts_nil) (fun _ _ _ _ _ => (pe_and (pe_callB (r := rIsi K) call_isi (by rfl) T.z_isinstance (by decide +kernel) (pa_cons (pv 1) (pa_cons (pty (n := "str") T.z_str) pa_nil))) (pe_one (pe_cmpR (r := rIn K false) op_in_seq (pv 1) (pgr T.g_LABELS) (by rfl)))))) pa_nil)))) (pss_one (ps_ret pe_bl)) pss_nil)
      (pss_one (ps_ret (pe_cmpR op_eq (plenset T.z_len T.z_set (pv 0) : PE _ _ (tLenSetS K _)) (pe_callB (r := rLenQ K) cLenQ (by rfl) T.z_len (by decide +kernel) (pa_cons (pv 0) pa_nil)) (nomark _))))))), ?_⟩
  replace hsp := hsp.2
  obtain ⟨v, ls, rfl, h, q⟩ := hsp
  cases ls with
  | none =>
    cases h
    exact ⟨_, rfl, rfl, _, rfl, iteT (decide_eq_true rfl) (q _ (Ex.refl _))⟩
  | some l =>
    obtain ⟨p, rfl, hp, nd, hl, hm⟩ := h
    refine ⟨_, rfl, rfl, _, rfl, iteF (by simp) ⟨_, rfl, szl (by simp), fun tp htp => ?_⟩⟩
    have e1 := Ex.new (o := .tup [.ty "list", .ty "tuple"]) htp
    have hp1 := hp.ex e1
    obtain ⟨t, ht, hk⟩ := ty_seq (K := K) hp1
    refine ⟨_, tp, _, t, _, true, rfl, upd_same, .cons (.ty _) (.cons (.ty _) .nil), ht, hk, _, rfl, iteF (by decide) ⟨_, rfl, p, _, rfl, hp1.q, _, _, rfl, .inr (SqT_labels T _), _, _, rfl, rfl, _, rfl, iteF ?_ ?_⟩⟩
    · show ¬ decide (((labelsL.map V.str).length : Int) < ((l.map V.str).length : Nat)) = true
      rw [List.length_map, List.length_map]
      simp [labelsL]
      omega
    refine ⟨_, rfl, p, _, rfl, hp1.q, fun J Gd wk hg D hD => lcE wk (fun _ => some (.bl true)) hD (sz_lt (by rw [List.length_map]; omega)) hg (fun i x H1 H2 R S hi e hy k1 k2 => ?_) fun H1 e hD1 => ?_⟩
    · obtain ⟨rfl, hy⟩ := hy
      rw [List.getElem?_map] at hy
      obtain ⟨z, hz, rfl⟩ := Option.map_eq_some_iff.mp hy
      refine ⟨rfl, yes (iteT rfl ⟨_, rfl, _, _, _, _, true, rfl, .ty _, .base (.str _), ki_ss, _, rfl, iteT rfl ⟨_, rfl, _, _, rfl, .inr (SqT_labels T _), rfl, rfl, k1 _ _ (Ex.refl _) ?_⟩⟩)⟩
      exact congrArg (fun b => some (V.bl b)) (inV_strs (hm z (List.mem_of_getElem? hz))).symm
    · rw [fm_const] at hD1
      have hp2 := hp1.ex e
      refine ⟨_, List.replicate _ true, rfl, sq_of (by rw [List.map_replicate]; exact hD1), _, rfl, ?_⟩
      rw [all_rep]
      refine iteF (by decide) ⟨_, rfl, p, l, rfl, hp2.q, nd, by omega, _, rfl, p, _, rfl, hp2.q, rfl, ?_⟩
      have : V.int ((l.length : Nat) : Int) = V.int (((l.map V.str).length : Nat) : Int) := by rw [List.length_map]
      rw [decide_eq_true this]
      exact q _ (e1.trans e)
end BX
/-! the walks: parcels -/
namespace BX
open PySem PySem.Spec PyProof.Rows L2
/-- what is known of a parcel -/
structure Pcl where
  name : Str
  three : List Int
  w : Int
  h : Int
  b : Int
  marks : List Str
structure PcOk (p : Pcl) : Prop where
  name : IsName p.name
  len : p.three.length = 3
  three : ∀ i ∈ p.three, 1 ≤ i ∧ i ≤ 100000
  w : 1 ≤ p.w ∧ p.w ≤ 1000
  h : 0 ≤ p.h ∧ p.h ≤ 100000
  b : 0 ≤ p.b ∧ p.b ≤ 100000
  mlen : p.marks.length ≤ 3
  marks : ∀ x ∈ p.marks, x ∈ labelsL
def fldP (p : Pcl) (s m : Addr) : List (Str × V) := [("called", .str p.name), ("outside", .ref s), ("thick", .int p.w), ("heavy", .int p.h), ("strong", .int p.b), ("marks", .ref m)]
def ParcelAt (K : PySem.W.Frag) (G : Hp) (a : Addr) (p : Pcl) : Prop := ∃ dx s m, G a = some (.ins (cP K) dx (fldP p s m)) ∧ SidesAt K G s p.three ∧ G m = some (.lst (p.marks.map V.str)) ∧ PcOk p
theorem ParcelAt.ex {K : PySem.W.Frag} {G G' : Hp} {a : Addr} {p : Pcl} (h : ParcelAt K G a p) (e : Ex G G') : ParcelAt K G' a p :=
  let ⟨dx, s, m, h1, h2, h3, h4⟩ := h
  ⟨dx, s, m, e _ _ h1, h2.ex e, e _ _ h3, h4⟩
def marksOf (ls : Option (List Str)) : List Str := match ls with
  | none => []
  | some l => labelsL.filter (· ∈ l)
theorem marks_ok (ls : Option (List Str)) : (marksOf ls).length ≤ 3 ∧ ∀ x ∈ marksOf ls, x ∈ labelsL := by
  cases ls with
  | none => exact ⟨by simp [marksOf], fun _ z => by cases z⟩
  | some l => exact ⟨List.length_filter_le _ _, fun x z => (List.mem_filter.mp z).1⟩
theorem LabsAt.ex {H H' : Hp} {v : V} {ls : Option (List Str)} (h : LabsAt H v ls) (e : Ex H H') : LabsAt H' v ls := by
  cases ls with
  | none => exact h
  | some l =>
    obtain ⟨p, h1, h2, h3⟩ := h
    exact ⟨p, h1, h2.ex e, h3⟩
theorem marks_fm (ls : Option (List Str)) : labelsL.filterMap (fun z => if z ∈ marksOf ls then some (V.str z) else none) = (marksOf ls).map V.str := by
  rw [fm_if]
  congr 1
  cases ls with
  | none => simp [marksOf]
  | some l =>
    unfold marksOf
    apply List.filter_congr
    intro x hx
    simp [hx]
def sp_Parcel_init (K : PySem.W.Frag) : Sp := spN 7 fun vs H Q _ => ∃ (x dx s : Addr) (p : Pcl) (lab : V) (ls : Option (List Str)), vs = [.ref x, .str p.name, .ref s, .int p.w, .int p.h, .int p.b, lab] ∧ H x = some (.ins (cP K) dx []) ∧ SidesAt K H s p.three ∧ LabsAt H lab ls ∧ PcOk p ∧ p.marks = marksOf ls ∧
  ∀ m H2, H m = none → ExB x H H2 → H2 m = some (.lst (p.marks.map V.str)) → H2 x = some (.ins (cP K) dx (fldP p s m)) → Q .non H2
abbrev N_Parcel_init : List Str := ["self", "name", "sides", "wall", "weight", "bears", "labels", "number", "word"]
theorem sc_Parcel_init : FnScope N_Parcel_init ["self", "name", "sides", "wall", "weight", "bears", "labels"] (defScope s_Parcel_init) := ⟨rfl, rfl, rfl, by decide +kernel, rfl, by decide +kernel, by decide +kernel⟩
theorem w_Parcel_init {P : Program} {w : World} {K : PySem.W.Frag} {mg : Str → Option Value} {base : Heap} (T : Tp K mg) {dvs : List V} (hb : ∀ fd, FunD K "__init__" "Parcel.__init__" (defArgs s_Parcel_init) (defBody s_Parcel_init) (defScope s_Parcel_init) [.int 1, .int 0, .int 0, .non] [] (He.ma K (He.ga K "Parcel") "__init__") fd → ∃ ds, Vals dvs ds ∧ Binds K fd ["self", "name", "sides", "wall", "weight", "bears", "labels"] ds) (F_are_labels : FnE P w K mg base 1 (He.ga K "are_labels") ["thing"] [] (sp_are_labels K)) (F_is_name : FnE P w K mg base 1 (He.ga K "is_name") ["thing"] [] (sp_is_name K)) (F_is_whole : FnE P w K mg base 1 (He.ga K "is_whole") ["thing", "low", "high"] [] (sp_is_whole K)) : FnE P w K mg base 2 (He.ma K (He.ga K "Parcel") "__init__") ["self", "name", "sides", "wall", "weight", "bears", "labels"] dvs (sp_Parcel_init K) := by
  refine fneB T.f_Parcel_init sc_Parcel_init (fun _ _ _ _ h => h.1) hb fun cdv A outer s H vs Q E hr hsp => ?_
  have nd := sc_Parcel_init.nd
  refine ⟨_, (pss_cons (ps_if (pt_not (pt_val (pcall F_is_name (hr.mono (by decide)) T.g_is_name (pa_cons (pv 1) pa_nil)))) pss_never pss_nil)
      (pss_cons (ps_if (pt_not (pt_val (pe_callB (r := rIsC (He.ga K "Sides")) (cIsC T.is_Sides) (by rfl) T.z_isinstance (by decide +kernel) (pa_cons (pv 2) (pa_cons (pgr T.g_Sides) pa_nil))))) pss_never pss_nil)
      (pss_cons (ps_if (pt_not (pt_val (pcall F_is_whole (hr.mono (by decide)) T.g_is_whole (pa_cons (pv 3) (pa_cons pe_int (pa_cons (pgi T.i_MOST_WALL) pa_nil)))))) pss_never pss_nil)
      (pss_cons (ps_for PassesOwn.never rfl (pi_tup (pe_tup (pa_cons (pv 4) (pa_cons (pv 5) pa_nil))) : PI _ _ _ (iTup K _)) (pgn 7 nd) (pss_one (ps_if (pt_not (pt_val (pcall F_is_whole (hr.mono (by decide)) T.g_is_whole (pa_cons (pv 7) (pa_cons pe_int (pa_cons (pgi T.i_MOST_WEIGHT) pa_nil)))))) pss_never pss_nil)))
      (pss_cons (ps_if (pt_not (pt_val (pcall F_are_labels (hr.mono (by decide)) T.g_are_labels (pa_cons (pv 6) pa_nil)))) pss_never pss_nil)
      (pss_cons (ps_fld (pv 0) (pv 1) rfl : PS _ _ (sFld K _ _ _))
      (pss_cons (ps_fld (pv 0) (pv 2) rfl : PS _ _ (sFld K _ _ _))
      (pss_cons (ps_fld (pv 0) (pv 3) rfl : PS _ _ (sFld K _ _ _))
      (pss_cons (ps_fld (pv 0) (pv 4) rfl : PS _ _ (sFld K _ _ _))
      (pss_cons (ps_fld (pv 0) (pv 5) rfl : PS _ _ (sFld K _ _ _))
      (pss_one (ps_fld (pv 0) (pe_lc (own := [("word", 8)]) (g := gName 8) rfl nd (pi_tup (pgr T.g_LABELS) : PI _ _ _ (iTup K _)) (blkOk_by (N := N_Parcel_init) (sc := defScope s_Parcel_init) (by decide +kernel)) (fun _ _ _ _ _ => (pgn 8 nd)) (fun _ _ _ _ _ => (pts_one (PW.pt (pw_and (pt_cmpR op_notN (pv 6) pe_non (nomark _)) (pw_and1 (pt_cmpR (r := rIn K false) op_in_seq (pv 8) (pv 6) (by rfl))))))) (fun _ _ _ _ _ => (pv 8))) rfl : PS _ _ (sFld K _ _ _))))))))))))), ?_⟩
  replace hsp := hsp.2
  obtain ⟨x, dx, s1, p, lab, ls, rfl, hx, hs, hl, ok, hm, q⟩ := hsp
  refine ⟨_, rfl, rfl, p.name, rfl, ok.name, fun H1 e1 => ⟨_, rfl, iteF (by decide) ?_⟩⟩
  obtain ⟨dxs, t, g1, g2, g3⟩ := hs.ex e1
  refine ⟨_, rfl, _, _, _, rfl, g1, _, rfl, iteF (by decide) ?_⟩
  refine ⟨_, rfl, rfl, p.w, 1, 1000, rfl, ok.w.1, ok.w.2, _, rfl, iteF (by decide) ?_⟩
  refine ⟨_, rfl, _, rfl, szl (by simp), fun t1 ht1 => ⟨t1, rfl, ⟨_, st_of upd_same⟩, forE (walk_tup (xs := [.int p.h, .int p.b])) (fun i σ H' => ∃ o, σ = [some (.ref x), some (.str p.name), some (.ref s1), some (.int p.w), some (.int p.h), some (.int p.b), some lab, o, none] ∧ H' = upd H1 t1 (.tup [.int p.h, .int p.b])) ⟨none, rfl, rfl⟩ (fun i σ H' _ pp => ?_) (fun i y σ H2 H3 N hi pp hy k => ?_) fun σ H' pp => ?_⟩⟩
  · obtain ⟨o, _, rfl⟩ := pp
    exact st_of upd_same
  · obtain ⟨o, rfl, rfl⟩ := pp
    obtain ⟨rfl, hy⟩ := hy
    have hj : ∃ j : Int, y = .int j ∧ 0 ≤ j ∧ j ≤ 100000 := by
      have := List.mem_of_getElem? hy
      simp only [List.mem_cons, List.not_mem_nil, or_false] at this
      rcases this with r | r
      · exact ⟨_, r, ok.h.1, ok.h.2⟩
      · exact ⟨_, r, ok.b.1, ok.b.2⟩
    obtain ⟨j, rfl, h1, h2⟩ := hj
    exact ⟨_, rfl, rfl, j, 0, 100000, rfl, h1, h2, _, rfl, iteF (by decide) (k _ _ ⟨_, rfl, rfl⟩)⟩
  · obtain ⟨o, rfl, rfl⟩ := pp
    have e2 : Ex H (upd H1 t1 (.tup [.int p.h, .int p.b])) := e1.trans (Ex.new ht1)
    have hl2 : LabsAt (upd H1 t1 (.tup [.int p.h, .int p.b])) lab ls := hl.ex e2
    refine ⟨_, rfl, rfl, lab, ls, rfl, hl2, fun H3 e3 => ⟨_, rfl, iteF (by decide) ?_⟩⟩
    have e4 := e2.trans e3
    have hl3 := hl2.ex e3
    have hx3 := e4 _ _ hx
    generalize e4 = e4 at *
    clear e3 e2 hl2
    refine ⟨_, rfl, _, rfl, x, _, dx, _, rfl, hx3, T.c_Parcel, T.n_Parcel_called, by decide, ?_⟩
    refine ⟨_, rfl, _, rfl, x, _, dx, [("called", .str p.name)], rfl, upd_same, T.c_Parcel, T.n_Parcel_outside, by simp, ?_⟩
    refine ⟨_, rfl, _, rfl, x, _, dx, [("called", .str p.name), ("outside", .ref s1)], rfl, upd_same, T.c_Parcel, T.n_Parcel_thick, by simp, ?_⟩
    refine ⟨_, rfl, _, rfl, x, _, dx, [("called", .str p.name), ("outside", .ref s1), ("thick", .int p.w)], rfl, upd_same, T.c_Parcel, T.n_Parcel_heavy, by simp, ?_⟩
    refine ⟨_, rfl, _, rfl, x, _, dx, [("called", .str p.name), ("outside", .ref s1), ("thick", .int p.w), ("heavy", .int p.h)], rfl, upd_same, T.c_Parcel, T.n_Parcel_strong, by simp, ?_⟩
    have ex : ∀ {G : Hp} {fs : List (Str × V)}, ExB x H G → ExB x H (upd G x (.ins (cP K) dx fs)) := fun h => h.upd
    have b0 : ExB x H H3 := e4.exB
    generalize hG : upd (upd (upd (upd (upd H3 x _) x _) x _) x _) x _ = H4
    have b4 : ExB x H H4 := by
      rw [← hG]
      exact b0.upd.upd.upd.upd.upd
    have x4 : H4 x = some (.ins (cP K) dx [("called", .str p.name), ("outside", .ref s1), ("thick", .int p.w), ("heavy", .int p.h), ("strong", .int p.b)]) := by
      rw [← hG]
      exact upd_same
    have l4 : LabsAt H4 lab ls := by
      cases ls with
      | none => exact hl3
      | some l =>
        obtain ⟨pa, h1, h2, h3⟩ := hl
        refine ⟨pa, h1, ?_, h3⟩
        have ne : pa ≠ x := by
          rcases h2 with z | z
          · exact ne_of z hx (fun z => nomatch z)
          · exact ne_of z hx (fun z => nomatch z)
        rcases h2 with z | z
        · exact .inl (b4 _ _ ne z)
        · exact .inr (b4 _ _ ne z)
    clear hG
    refine ⟨_, rfl, ⟨_, SqT_labels T _⟩, fun D hD => lcE (walk_tup (xs := labelsL.map V.str)) (fun i => (labelsL[i]?).bind fun z => if z ∈ marksOf ls then some (.str z) else none) hD (sz_lt (by decide)) (fun _ _ => SqT_labels T _) (fun i y G1 G2 R S hi e hy k1 k2 => ?_) fun G1 e hD1 => ?_⟩
    · obtain ⟨rfl, hy⟩ := hy
      rw [List.getElem?_map] at hy
      obtain ⟨z, hz, rfl⟩ := Option.map_eq_some_iff.mp hy
      refine ⟨rfl, ?_⟩
      rw [hz] at k1 k2
      have zl : z ∈ labelsL := List.mem_of_getElem? hz
      cases ls with
      | none =>
        cases l4
        exact ⟨_, rfl, rfl, _, rfl, iteF (by simp) (iteF (by decide) (k2 _ (Ex.refl _) rfl))⟩
      | some l =>
        obtain ⟨pa, rfl, h2, h3⟩ := l4
        refine ⟨_, rfl, rfl, _, rfl, iteT (by simp) ⟨_, rfl, _, rfl, pa, _, rfl, (h2.ex e).q, rfl, flat_strs _, _, rfl, ?_⟩⟩
        by_cases m : z ∈ l
        · refine iteT ?_ ⟨_, rfl, k1 _ _ (Ex.refl _) ?_⟩
          · show inV (.str z) (l.map V.str) = true
            exact inV_strs m
          · show (if z ∈ marksOf (some l) then some (V.str z) else none) = _
            rw [if_pos (show z ∈ marksOf (some l) from List.mem_filter.mpr ⟨zl, by simpa using m⟩)]
        · refine iteF ?_ (k2 _ (Ex.refl _) ?_)
          · show ¬ inV (.str z) (l.map V.str) = true
            rw [inV_str]
            simpa using m
          · show (if z ∈ marksOf (some l) then some (V.str z) else none) = _
            rw [if_neg (fun q : z ∈ marksOf (some l) => m (by simpa using (List.mem_filter.mp q).2))]
    · have hD1 : G1 D = some (.lst (p.marks.map V.str)) := by
        rw [hD1, hm]
        exact congrArg (fun l => some (HO.lst l)) ((fm_list _ labelsL).trans (marks_fm ls))
      have nD : H D = none := by
        cases z : H D with
        | none => rfl
        | some u =>
          have ne : D ≠ x := fun r => by
            rw [r, x4] at hD
            cases hD
          rw [b4 D u ne z] at hD
          cases hD
      have ne : D ≠ x := fun r => by
        rw [r, hx] at nD
        cases nD
      refine ⟨_, rfl, x, _, dx, [("called", .str p.name), ("outside", .ref s1), ("thick", .int p.w), ("heavy", .int p.h), ("strong", .int p.b)], rfl, e _ _ x4, T.c_Parcel, T.n_Parcel_marks, by simp, ?_⟩
      exact q D _ nD (b4.ex e).upd (by rw [upd_ne ne]; exact hD1) upd_same
end BX
/-! the walks: parcels' words, heaps -/
namespace BX
open PySem PySem.Spec PyProof.Rows L2
theorem pr_at {α β : Type} {F : α → β → Prop} : ∀ {l : List α} {m : List β} {i : Nat} {a : α}, Paired F l m → l[i]? = some a → ∃ b, m[i]? = some b ∧ F a b
  | _, _, 0, _, .cons h _, e => by
    cases e
    exact ⟨_, rfl, h⟩
  | _, _, i + 1, _, .cons _ t, e => pr_at (i := i) t e
theorem pr_at2 {α β : Type} {F : α → β → Prop} : ∀ {l : List α} {m : List β} {i : Nat} {b : β}, Paired F l m → m[i]? = some b → ∃ a, l[i]? = some a ∧ F a b
  | _, _, 0, _, .cons h _, e => by
    cases e
    exact ⟨_, rfl, h⟩
  | _, _, i + 1, _, .cons _ t, e => pr_at2 (i := i) t e
theorem pr_del {α β : Type} {F : α → β → Prop} : ∀ {l : List α} {m : List β} (i : Nat), Paired F l m → Paired F (l.eraseIdx i) (m.eraseIdx i)
  | _, _, _, .nil => .nil
  | _, _, 0, .cons _ t => t
  | _, _, i + 1, .cons h t => .cons h (pr_del i t)
/-- the first place -/
theorem idx_first : ∀ {l : List Str} {n : Str} {i : Nat}, l[i]? = some n → (∀ j, j < i → l[j]? ≠ some n) → l.idxOf n = i
  | [], _, _, h, _ => by simp at h
  | a :: l, n, 0, h, _ => by
    have e : a = n := by simpa using h
    rw [e, List.idxOf_cons_self]
  | a :: l, n, i + 1, h, no => by
    have ne : ¬ a = n := fun e => no 0 (Nat.succ_pos _) (by simp [e])
    have ih := idx_first (l := l) (i := i) (by simpa using h) fun j hj z => no (j + 1) (Nat.succ_lt_succ hj) (by simpa using z)
    have b : (a == n) = false := by
      cases q : a == n with
      | false => rfl
      | true => exact absurd (beq_iff_eq.mp q) ne
    rw [List.idxOf_cons, b, ih] <;> rfl
theorem seq_ix {k n : Nat} (h : k < n) : seqIndex? (k : Int) n = some k := by
  have z := PySem.seqIndex_of (k := (k : Int)) (n := n) (by omega) (by omega)
  rw [z, Int.toNat_natCast]
theorem eraseIdx_map' {α β : Type} (f : α → β) : ∀ (l : List α) (i : Nat), (l.eraseIdx i).map f = (l.map f).eraseIdx i
  | [], _ => rfl
  | _ :: _, 0 => rfl
  | a :: l, i + 1 => by
    show f a :: (l.eraseIdx i).map f = f a :: (l.map f).eraseIdx i
    rw [eraseIdx_map' f l i]
def PsAt (K : PySem.W.Frag) (G : Hp) (rs : List Addr) (ps : List Pcl) : Prop := Paired (fun a p => ParcelAt K G a p) rs ps
theorem PsAt.ex {K : PySem.W.Frag} {G G' : Hp} {rs : List Addr} {ps : List Pcl} (h : PsAt K G rs ps) (e : Ex G G') : PsAt K G' rs ps := Paired.mapP h fun _ _ z => z.ex e
/-- a heap: its instance, its list, the parcels -/
structure HeapIn (K : PySem.W.Frag) (H : Hp) (a dx l : Addr) (rs : List Addr) (ps : List Pcl) : Prop where
  at_ : H a = some (.ins (cH K) dx [("held", .ref l)])
  lst : H l = some (.lst (rs.map V.ref))
  par : PsAt K H rs ps
  le : ps.length ≤ 12
theorem HeapIn.ex {K : PySem.W.Frag} {H H' : Hp} {a dx l : Addr} {rs : List Addr} {ps : List Pcl} (h : HeapIn K H a dx l rs ps) (e : Ex H H') : HeapIn K H' a dx l rs ps := ⟨e _ _ h.at_, e _ _ h.lst, h.par.ex e, h.le⟩
theorem HeapIn.rl {K : PySem.W.Frag} {H : Hp} {a dx l : Addr} {rs : List Addr} {ps : List Pcl} (h : HeapIn K H a dx l rs ps) : rs.length = ps.length := h.par.length
def sp_Parcel_name (K : PySem.W.Frag) : Sp := spN 1 fun vs H Q _ => ∃ (x : Addr) (p : Pcl), vs = [.ref x] ∧ ParcelAt K H x p ∧ Q (.str p.name) H
abbrev N_Parcel_name : List Str := ["self"]
theorem sc_Parcel_name : FnScope N_Parcel_name ["self"] (defScope s_Parcel_name) := ⟨rfl, rfl, rfl, by decide +kernel, rfl, by decide +kernel, by decide +kernel⟩
theorem w_Parcel_name {P : Program} {w : World} {K : PySem.W.Frag} {mg : Str → Option Value} {base : Heap} (T : Tp K mg)  : FnE P w K mg base 1 (He.ma K (He.ga K "Parcel") "name") ["self"] [] (sp_Parcel_name K) := by
  refine fne T.f_Parcel_name sc_Parcel_name (fun _ _ _ _ h => h.1) (fun _ _ _ _ _ _ us hl => match us, hl with | [_], _ => rfl) fun cdv A outer s H vs Q E hr hsp => ?_
  have nd := sc_Parcel_name.nd
  refine ⟨_, (pss_one (ps_ret (pe_fld (pv 0) rfl : PE _ _ (tFld K _ _)))), ?_⟩
  replace hsp := hsp.2
  obtain ⟨x, p, rfl, ⟨dx, s1, m, hx, _⟩, q⟩ := hsp
  exact ⟨_, rfl, _, _, _, _, _, rfl, hx, T.c_Parcel, T.n_Parcel_called, rfl, q⟩
def sp_Parcel_sides (K : PySem.W.Frag) : Sp := spN 1 fun vs H Q _ => ∃ (x dx s m : Addr) (p : Pcl), vs = [.ref x] ∧ H x = some (.ins (cP K) dx (fldP p s m)) ∧ Q (.ref s) H
abbrev N_Parcel_sides : List Str := ["self"]
theorem sc_Parcel_sides : FnScope N_Parcel_sides ["self"] (defScope s_Parcel_sides) := ⟨rfl, rfl, rfl, by decide +kernel, rfl, by decide +kernel, by decide +kernel⟩
theorem w_Parcel_sides {P : Program} {w : World} {K : PySem.W.Frag} {mg : Str → Option Value} {base : Heap} (T : Tp K mg)  : FnE P w K mg base 1 (He.ma K (He.ga K "Parcel") "sides") ["self"] [] (sp_Parcel_sides K) := by
  refine fne T.f_Parcel_sides sc_Parcel_sides (fun _ _ _ _ h => h.1) (fun _ _ _ _ _ _ us hl => match us, hl with | [_], _ => rfl) fun cdv A outer s H vs Q E hr hsp => ?_
  have nd := sc_Parcel_sides.nd
  refine ⟨_, (pss_one (ps_ret (pe_fld (pv 0) rfl : PE _ _ (tFld K _ _)))), ?_⟩
  replace hsp := hsp.2
  obtain ⟨x, dx, s1, m, p, rfl, hx, q⟩ := hsp
  exact ⟨_, rfl, _, _, _, _, _, rfl, hx, T.c_Parcel, T.n_Parcel_outside, rfl, q⟩
theorem len_app (a b : Str) : (a ++ b).length = a.length + b.length := by simp [Str.length, Str.cps_append]
theorem strS_len {three : List Int} (h : three.length = 3) (hb : ∀ i ∈ three, 1 ≤ i ∧ i ≤ 100000) : (strS three).length ≤ 60 := by
  obtain ⟨a, b, c, rfl⟩ := three_of h
  have h1 := int_len (i := a) (by have := hb a (by simp); omega)
  have h2 := int_len (i := b) (by have := hb b (by simp); omega)
  have h3 := int_len (i := c) (by have := hb c (by simp); omega)
  have h4 : (Str.ofString " x ").length = 3 := by decide +kernel
  unfold strS
  rw [TL.join_eq]
  show (Str.ofString (toString a) ++ Str.ofString " x " ++ (Str.ofString (toString b) ++ Str.ofString " x " ++ Str.ofString (toString c))).length ≤ 60
  simp only [len_app]
  omega
/-- str of a parcel -/
def wordsP (p : Pcl) : List Str := ["parcel", p.name, strS p.three, Str.ofString (toString p.w), Str.ofString (toString p.h), Str.ofString (toString p.b)]
def strP (p : Pcl) : Str := Txt.join " " (wordsP p ++ p.marks)
theorem labels_len : ∀ x ∈ labelsL, x.length ≤ 7 := by decide +kernel
theorem sum_le : ∀ (l : List Str) (B : Nat), (∀ x ∈ l, x.length ≤ B) → (l.map (·.length)).sum ≤ l.length * B
  | [], _, _ => by simp
  | a :: l, B, h => by
    have h1 := h a (List.mem_cons_self ..)
    have h2 := sum_le l B fun x hx => h x (List.mem_cons_of_mem _ hx)
    rw [List.map_cons, List.sum_cons, List.length_cons, Nat.succ_mul]
    omega
theorem words_fit {p : Pcl} (ok : PcOk p) : ((wordsP p ++ p.marks).map (·.length)).sum + (wordsP p ++ p.marks).length * (Str.ofString " ").length ≤ 16777216 := by
  have h1 : ∀ x ∈ wordsP p ++ p.marks, x.length ≤ 60 := by
    intro x hx
    rcases List.mem_append.mp hx with hx | hx
    · simp only [wordsP, List.mem_cons, List.not_mem_nil, or_false] at hx
      rcases hx with r | r | r | r | r | r
      · rw [r]
        decide +kernel
      · rw [r]
        have := ok.name.2.1
        omega
      · rw [r]
        exact strS_len ok.len ok.three
      · rw [r]
        have := int_len (i := p.w) (by have := ok.w; omega)
        omega
      · rw [r]
        have := int_len (i := p.h) (by have := ok.h; omega)
        omega
      · rw [r]
        have := int_len (i := p.b) (by have := ok.b; omega)
        omega
    · have := labels_len x (ok.marks x hx)
      omega
  have h2 := sum_le _ 60 h1
  have h3 : (wordsP p ++ p.marks).length ≤ 9 := by
    rw [List.length_append]
    have := ok.mlen
    show 6 + p.marks.length ≤ 9
    omega
  have h4 : (Str.ofString " ").length = 1 := by decide +kernel
  rw [h4]
  omega
def sp_Parcel_str (K : PySem.W.Frag) : Sp := spN 1 fun vs H Q _ => ∃ (x : Addr) (p : Pcl), vs = [.ref x] ∧ ParcelAt K H x p ∧ ∀ H', Ex H H' → Q (.str (strP p)) H'
abbrev N_Parcel_str : List Str := ["self", "words"]
theorem sc_Parcel_str : FnScope N_Parcel_str ["self"] (defScope s_Parcel_str) := ⟨rfl, rfl, rfl, by decide +kernel, rfl, by decide +kernel, by decide +kernel⟩
theorem w_Parcel_str {P : Program} {w : World} {K : PySem.W.Frag} {mg : Str → Option Value} {base : Heap} (T : Tp K mg) (F_Sides_str : FnE P w K mg base 1 (He.ma K (He.ga K "Sides") "__str__") ["self"] [] (sp_Sides_str K)) : FnE P w K mg base 4 (He.ma K (He.ga K "Parcel") "__str__") ["self"] [] (sp_Parcel_str K) := by
  refine fne T.f_Parcel_str sc_Parcel_str (fun _ _ _ _ h => h.1) (fun _ _ _ _ _ _ us hl => match us, hl with | [_], _ => rfl) fun cdv A outer s H vs Q E hr hsp => ?_
  have nd := sc_Parcel_str.nd
  refine ⟨_, (pss_cons (pset 1 nd (pe_lst (pa_cons pe_str (pa_cons (pe_fld (pv 0) rfl : PE _ _ (tFld K _ _)) (pa_cons (pe_callTy (r := rStrO (He.ga K "Sides") _) (cStrO T.m_Sides_str F_Sides_str (hr.mono (by decide))) (by rfl) T.z_str (by decide +kernel) (pa_cons (pe_fld (pv 0) rfl : PE _ _ (tFld K _ _)) pa_nil)) (pa_cons (pe_callTy (r := rStrI) cStrI (by rfl) T.z_str (by decide +kernel) (pa_cons (pe_fld (pv 0) rfl : PE _ _ (tFld K _ _)) pa_nil)) (pa_cons (pe_callTy (r := rStrI) cStrI (by rfl) T.z_str (by decide +kernel) (pa_cons (pe_fld (pv 0) rfl : PE _ _ (tFld K _ _)) pa_nil)) (pa_cons (pe_callTy (r := rStrI) cStrI (by rfl) T.z_str (by decide +kernel) (pa_cons (pe_fld (pv 0) rfl : PE _ _ (tFld K _ _)) pa_nil)) pa_nil))))))))
      (pss_one (ps_ret (pe_join pe_str (pe_op op_cat (pv 1) (pe_fld (pv 0) rfl : PE _ _ (tFld K _ _))) : PE _ _ (tJoin K _ _))))), ?_⟩
  replace hsp := hsp.2
  obtain ⟨x, p, rfl, ⟨dx, s1, m, hx, hs, hm, ok⟩, q⟩ := hsp
  have fl : ∀ {H' : Hp}, Ex H H' → H' x = some (.ins (cP K) dx (fldP p s1 m)) := fun e => e _ _ hx
  obtain ⟨dxs, t, g1, _⟩ := id hs
  refine ⟨_, rfl, _, _, _, _, _, rfl, hx, T.c_Parcel, T.n_Parcel_called, rfl, _, rfl, _, _, _, _, _, rfl, hx, T.c_Parcel, T.n_Parcel_outside, rfl, _, _, _, rfl, g1, rfl, s1, p.three, rfl, hs, ok.three, fun H1 e1 => ⟨⟨_, rfl⟩, ?_⟩⟩
  have lg : ∀ {i : Int}, 0 ≤ i ∧ i ≤ 100000 → i.natAbs.log2 < 1920 := fun hi => small_log (by omega)
  refine ⟨_, rfl, _, _, _, _, _, rfl, fl e1, T.c_Parcel, T.n_Parcel_thick, rfl, _, rfl, lg ⟨by have := ok.w; omega, by have := ok.w; omega⟩, ?_⟩
  refine ⟨_, rfl, _, _, _, _, _, rfl, fl e1, T.c_Parcel, T.n_Parcel_heavy, rfl, _, rfl, lg ok.h, ?_⟩
  refine ⟨_, rfl, _, _, _, _, _, rfl, fl e1, T.c_Parcel, T.n_Parcel_strong, rfl, _, rfl, lg ok.b, szl (by simp), fun l hl => ?_⟩
  have e2 : Ex H (upd H1 l (.lst ((wordsP p).map V.str))) := e1.trans (Ex.new hl)
  refine ⟨⟨_, rfl⟩, _, rfl, _, rfl, _, _, _, _, _, rfl, fl e2, T.c_Parcel, T.n_Parcel_marks, rfl, l, m, _, _, rfl, rfl, upd_same, e2 _ _ hm, ?_, fun l2 hl2 => ?_⟩
  · show 6 + (p.marks.map V.str).length ≤ sizeLine
    rw [List.length_map]
    exact sz_of (by have := ok.mlen; omega)
  · exact ⟨_, _, wordsP p ++ p.marks, rfl, rfl, .inl (sq_of (by rw [List.map_append]; exact upd_same)), words_fit ok, q _ (e2.trans (Ex.new hl2))⟩
/-! ### heaps -/
def sp_Heap_init (K : PySem.W.Frag) : Sp := spN 1 fun vs H Q _ => ∃ x dx : Addr, vs = [.ref x] ∧ H x = some (.ins (cH K) dx []) ∧ ∀ l, H l = none → Q .non (upd (upd H l (.lst [])) x (.ins (cH K) dx [("held", .ref l)]))
abbrev N_Heap_init : List Str := ["self"]
theorem sc_Heap_init : FnScope N_Heap_init ["self"] (defScope s_Heap_init) := ⟨rfl, rfl, rfl, by decide +kernel, rfl, by decide +kernel, by decide +kernel⟩
theorem w_Heap_init {P : Program} {w : World} {K : PySem.W.Frag} {mg : Str → Option Value} {base : Heap} (T : Tp K mg)  : FnE P w K mg base 1 (He.ma K (He.ga K "Heap") "__init__") ["self"] [] (sp_Heap_init K) := by
  refine fne T.f_Heap_init sc_Heap_init (fun _ _ _ _ h => h.1) (fun _ _ _ _ _ _ us hl => match us, hl with | [_], _ => rfl) fun cdv A outer s H vs Q E hr hsp => ?_
  have nd := sc_Heap_init.nd
  refine ⟨_, (pss_one (ps_fld (pv 0) (pe_lst pa_nil) rfl : PS _ _ (sFld K _ _ _))), ?_⟩
  replace hsp := hsp.2
  obtain ⟨x, dx, rfl, hx, q⟩ := hsp
  exact ⟨szl (by simp), fun l hl => ⟨_, rfl, x, _, dx, _, rfl, Ex.new hl _ _ hx, T.c_Heap, T.n_Heap_held, by decide, q l hl⟩⟩
def sp_Heap_place_of (K : PySem.W.Frag) : Sp := spN 2 fun vs H Q _ => ∃ (a dx l : Addr) (rs : List Addr) (ps : List Pcl) (n : Str), vs = [.ref a, .str n] ∧ HeapIn K H a dx l rs ps ∧ n ∈ ps.map (·.name) ∧ ∀ H', Ex H H' → Q (.int ((ps.map (·.name)).idxOf n : Nat)) H'
abbrev N_Heap_place_of : List Str := ["self", "name", "place", "parcel"]
theorem sc_Heap_place_of : FnScope N_Heap_place_of ["self", "name"] (defScope s_Heap_place_of) := ⟨rfl, rfl, rfl, by decide +kernel, rfl, by decide +kernel, by decide +kernel⟩
theorem w_Heap_place_of {P : Program} {w : World} {K : PySem.W.Frag} {mg : Str → Option Value} {base : Heap} (T : Tp K mg) (F_Parcel_name : FnE P w K mg base 1 (He.ma K (He.ga K "Parcel") "name") ["self"] [] (sp_Parcel_name K)) : FnE P w K mg base 2 (He.ma K (He.ga K "Heap") "place_of") ["self", "name"] [] (sp_Heap_place_of K) := by
  refine fne T.f_Heap_place_of sc_Heap_place_of (fun _ _ _ _ h => h.1) (fun _ _ _ _ _ _ us hl => match us, hl with | [_, _], _ => rfl) fun cdv A outer s H vs Q E hr hsp => ?_
  have nd := sc_Heap_place_of.nd
  refine ⟨_, (pss_cons (ps_for PassesOwn.never rfl (pi_enum (by rfl) T.z_enumerate (pa_cons (pe_fld (pv 0) rfl : PE _ _ (tFld K _ _)) pa_nil) : PI _ _ _ (iEnum K _)) (pg_tup rfl (pgs_cons (pgn 2 nd) (pgs_cons (pgn 3 nd) pgs_nil)) : PG _ _ (gTup K _ _)) (pss_one (ps_if (PW.pt (pw_and (pt_val (pe_callB (r := rIsi K) call_isi (by rfl) T.z_isinstance (by decide +kernel) (pa_cons (pv 1) (pa_cons (pty (n := "str") T.z_str) pa_nil)))) (pw_and1 (pt_cmpR op_eq (pmeth0 (pv 3) T.c_Parcel T.m_Parcel_name F_Parcel_name (hr.mono (by decide))) (pv 1) (nomark _))))) (pss_one (ps_ret (pv 2))) pss_nil)))
      (pss_one ps_never)), ?_⟩
  replace hsp := hsp.2
  obtain ⟨a, dx, l, rs, ps, n, rfl, h, hn, q⟩ := hsp
  refine ⟨_, rfl, a, _, dx, _, _, rfl, h.at_, T.c_Heap, T.n_Heap_held, rfl, l, _, rfl, sq_of h.lst, forE (walk_enum (xs := rs.map V.ref)) (fun i σ H' => Ex H H' ∧ (∃ o1 o2, σ = [some (.ref a), some (.str n), o1, o2]) ∧ ∀ j p, j < i → ps[j]? = some p → p.name ≠ n) ⟨Ex.refl H, ⟨none, none, rfl⟩, fun j p hj => absurd hj (Nat.not_lt_zero _)⟩ (fun i σ H' _ p => ?_) (fun i y σ H1 H2 N hi p hy k => ?_) fun σ H' p => ?_⟩
  · exact ex_l p.1 (sq_of h.lst)
  · obtain ⟨e1, ⟨o1, o2, rfl⟩, hno⟩ := p
    obtain ⟨t, y1, y2, rfl, ht, rfl, h1, h2⟩ := hy
    cases h1
    replace h2 : (rs.map V.ref)[i]? = some y2 := h2
    rw [List.getElem?_map] at h2
    obtain ⟨r, hr1, rfl⟩ := Option.map_eq_some_iff.mp h2
    obtain ⟨p, hp, pa⟩ := pr_at (h.ex (e1.trans (Ex.new (o := .tup [.int (i : Nat), .ref r]) ht))).par hr1
    obtain ⟨dp, s1, m, g1, _⟩ := id pa
    refine ⟨t, _, rfl, st_of upd_same, rfl, _, _, rfl, _, _, rfl, rfl, ?_⟩
    refine ⟨_, rfl, _, _, _, _, true, rfl, .ty _, .base (.str _), ki_ss, _, rfl, iteT rfl ⟨_, rfl, r, dp, _, rfl, g1, rfl, rfl, r, p, rfl, pa, _, rfl, rfl, _, rfl, ?_⟩⟩
    by_cases e : p.name = n
    · refine iteT (by simp [e]) ⟨_, rfl, ?_⟩
      have ei : (ps.map (·.name)).idxOf n = i := by
        refine idx_first (l := ps.map (·.name)) (n := n) (by rw [List.getElem?_map, hp] <;> exact congrArg some e) fun j hj z => ?_
        rw [List.getElem?_map] at z
        obtain ⟨p2, hp2, e2⟩ := Option.map_eq_some_iff.mp z
        exact hno j p2 hj hp2 e2
      have q2 := q _ (e1.trans (Ex.new (o := .tup [.int (i : Nat), .ref r]) ht))
      rw [ei] at q2
      exact q2
    · refine iteF (by simp [e]) (k _ _ ⟨e1.trans (Ex.new ht), ⟨_, _, rfl⟩, fun j p2 hj hp2 => ?_⟩)
      rcases Nat.lt_succ_iff_lt_or_eq.mp hj with z | z
      · exact hno j p2 z hp2
      · subst z
        rw [hp] at hp2
        cases hp2
        exact e
  · obtain ⟨e1, _, hno⟩ := p
    obtain ⟨p, hp, e⟩ := List.mem_map.mp hn
    obtain ⟨j, hj, ej⟩ := List.mem_iff_getElem.mp hp
    exact absurd e (hno j p (by rw [List.length_map, h.rl]; exact hj) (by rw [List.getElem?_eq_getElem hj, ej]))
def sp_Heap_names (K : PySem.W.Frag) : Sp := spN 1 fun vs H Q _ => ∃ (a dx l : Addr) (rs : List Addr) (ps : List Pcl), vs = [.ref a] ∧ HeapIn K H a dx l rs ps ∧ ∀ p H', H p = none → Ex H H' → H' p = some (.lst ((ps.map (·.name)).map V.str)) → Q (.ref p) H'
abbrev N_Heap_names : List Str := ["self", "parcel"]
theorem sc_Heap_names : FnScope N_Heap_names ["self"] (defScope s_Heap_names) := ⟨rfl, rfl, rfl, by decide +kernel, rfl, by decide +kernel, by decide +kernel⟩
theorem w_Heap_names {P : Program} {w : World} {K : PySem.W.Frag} {mg : Str → Option Value} {base : Heap} (T : Tp K mg) (F_Parcel_name : FnE P w K mg base 1 (He.ma K (He.ga K "Parcel") "name") ["self"] [] (sp_Parcel_name K)) : FnE P w K mg base 2 (He.ma K (He.ga K "Heap") "names") ["self"] [] (sp_Heap_names K) := by
  refine fne T.f_Heap_names sc_Heap_names (fun _ _ _ _ h => h.1) (fun _ _ _ _ _ _ us hl => match us, hl with | [_], _ => rfl) fun cdv A outer s H vs Q E hr hsp => ?_
  have nd := sc_Heap_names.nd
  refine ⟨_, (pss_one (ps_ret (pe_lc (own := [("parcel", 1)]) (g := gName 1) rfl nd (pi_list (pe_fld (pv 0) rfl : PE _ _ (tFld K _ _)) : PI _ _ _ (iList K _)) (blkOk_by (N := N_Heap_names) (sc := defScope s_Heap_names) (by decide +kernel)) (fun _ _ _ _ _ => (pgn 1 nd)) (fun _ _ _ _ _ => pts_nil) (fun _ _ _ _ _ => (pmeth0 (pv 1) T.c_Parcel T.m_Parcel_name F_Parcel_name (hr.mono (by decide))))))), ?_⟩
  replace hsp := hsp.2
  obtain ⟨a, dx, l, rs, ps, rfl, h, q⟩ := hsp
  refine ⟨_, rfl, a, _, dx, _, _, rfl, h.at_, T.c_Heap, T.n_Heap_held, rfl, l, rfl, ⟨_, sq_of h.lst⟩, fun D hD => lcE (walk_list (xs := rs.map V.ref)) (fun i => (ps[i]?).map fun p => V.str p.name) hD (sz_lt (by rw [List.length_map, h.rl]; have := h.le; omega)) (fun H1 e => ex_l e (sq_of h.lst)) (fun i y H1 H2 R S hi e hy k1 k2 => ?_) fun H1 e hD1 => ?_⟩
  · obtain ⟨rfl, hy⟩ := hy
    rw [List.getElem?_map] at hy
    obtain ⟨r, hr1, rfl⟩ := Option.map_eq_some_iff.mp hy
    obtain ⟨p, hp, pa⟩ := pr_at (h.ex e).par hr1
    obtain ⟨dp, s1, m, g1, _⟩ := id pa
    exact ⟨rfl, yes (iteT rfl ⟨_, rfl, r, dp, _, rfl, g1, rfl, rfl, r, p, rfl, pa, k1 _ _ (Ex.refl _) (by rw [hp] <;> rfl)⟩)⟩
  · refine q D _ hD e ?_
    rw [hD1, List.length_map, h.rl, fm_map, List.map_map] <;> rfl
def sp_Heap_parcels (K : PySem.W.Frag) : Sp := spN 1 fun vs H Q _ => ∃ (a dx l : Addr) (rs : List Addr) (ps : List Pcl), vs = [.ref a] ∧ HeapIn K H a dx l rs ps ∧ ∀ p, H p = none → Q (.ref p) (upd H p (.lst (rs.map V.ref)))
abbrev N_Heap_parcels : List Str := ["self"]
theorem sc_Heap_parcels : FnScope N_Heap_parcels ["self"] (defScope s_Heap_parcels) := ⟨rfl, rfl, rfl, by decide +kernel, rfl, by decide +kernel, by decide +kernel⟩
theorem w_Heap_parcels {P : Program} {w : World} {K : PySem.W.Frag} {mg : Str → Option Value} {base : Heap} (T : Tp K mg)  : FnE P w K mg base 1 (He.ma K (He.ga K "Heap") "parcels") ["self"] [] (sp_Heap_parcels K) := by
  refine fne T.f_Heap_parcels sc_Heap_parcels (fun _ _ _ _ h => h.1) (fun _ _ _ _ _ _ us hl => match us, hl with | [_], _ => rfl) fun cdv A outer s H vs Q E hr hsp => ?_
  have nd := sc_Heap_parcels.nd
  refine ⟨_, (pss_one (ps_ret (pe_callTy (r := rListQ K) cListQ (by rfl) T.z_list (by decide +kernel) (pa_cons (pe_fld (pv 0) rfl : PE _ _ (tFld K _ _)) pa_nil)))), ?_⟩
  replace hsp := hsp.2
  obtain ⟨a, dx, l, rs, ps, rfl, h, q⟩ := hsp
  exact ⟨_, rfl, a, _, dx, _, _, rfl, h.at_, T.c_Heap, T.n_Heap_held, rfl, l, _, rfl, .inl (sq_of h.lst), q⟩
def sp_Heap_parcel (K : PySem.W.Frag) : Sp := spN 2 fun vs H Q _ => ∃ (a dx l : Addr) (rs : List Addr) (ps : List Pcl) (n : Str) (r : Addr), vs = [.ref a, .str n] ∧ HeapIn K H a dx l rs ps ∧ n ∈ ps.map (·.name) ∧ rs[(ps.map (·.name)).idxOf n]? = some r ∧ ∀ H', Ex H H' → Q (.ref r) H'
abbrev N_Heap_parcel : List Str := ["self", "name"]
theorem sc_Heap_parcel : FnScope N_Heap_parcel ["self", "name"] (defScope s_Heap_parcel) := ⟨rfl, rfl, rfl, by decide +kernel, rfl, by decide +kernel, by decide +kernel⟩
theorem w_Heap_parcel {P : Program} {w : World} {K : PySem.W.Frag} {mg : Str → Option Value} {base : Heap} (T : Tp K mg) (F_Heap_place_of : FnE P w K mg base 2 (He.ma K (He.ga K "Heap") "place_of") ["self", "name"] [] (sp_Heap_place_of K)) : FnE P w K mg base 3 (He.ma K (He.ga K "Heap") "parcel") ["self", "name"] [] (sp_Heap_parcel K) := by
  refine fne T.f_Heap_parcel sc_Heap_parcel (fun _ _ _ _ h => h.1) (fun _ _ _ _ _ _ us hl => match us, hl with | [_, _], _ => rfl) fun cdv A outer s H vs Q E hr hsp => ?_
  have nd := sc_Heap_parcel.nd
  refine ⟨_, (pss_one (ps_ret (pe_ix (r := rIxL K) ix_list (pe_fld (pv 0) rfl : PE _ _ (tFld K _ _)) (pmeth (pv 0) T.c_Heap T.m_Heap_place_of F_Heap_place_of (hr.mono (by decide)) (pa_cons (pv 1) pa_nil)) (fun _ _ => rfl)))), ?_⟩
  replace hsp := hsp.2
  obtain ⟨a, dx, l, rs, ps, n, r, rfl, h, hn, hr1, q⟩ := hsp
  refine ⟨_, rfl, a, _, dx, _, _, rfl, h.at_, T.c_Heap, T.n_Heap_held, rfl, _, rfl, a, dx, _, rfl, h.at_, rfl, _, rfl, rfl, a, dx, l, rs, ps, n, rfl, h, hn, fun H1 e1 => ?_⟩
  exact ⟨l, _, _, _, rfl, rfl, sq_of (e1 _ _ h.lst), atI_nat (by rw [List.getElem?_map, hr1] <;> rfl), q _ e1⟩
def sp_Heap_out (K : PySem.W.Frag) : Sp := spN 2 fun vs H Q _ => ∃ (a dx l : Addr) (rs : List Addr) (ps : List Pcl) (n : Str) (r : Addr), vs = [.ref a, .str n] ∧ HeapIn K H a dx l rs ps ∧ n ∈ ps.map (·.name) ∧ rs[(ps.map (·.name)).idxOf n]? = some r ∧
  ∀ H', ExB l H H' → H' l = some (.lst ((rs.eraseIdx ((ps.map (·.name)).idxOf n)).map V.ref)) → Q (.ref r) H'
abbrev N_Heap_out : List Str := ["self", "name"]
theorem sc_Heap_out : FnScope N_Heap_out ["self", "name"] (defScope s_Heap_out) := ⟨rfl, rfl, rfl, by decide +kernel, rfl, by decide +kernel, by decide +kernel⟩
theorem w_Heap_out {P : Program} {w : World} {K : PySem.W.Frag} {mg : Str → Option Value} {base : Heap} (T : Tp K mg) (F_Heap_place_of : FnE P w K mg base 2 (He.ma K (He.ga K "Heap") "place_of") ["self", "name"] [] (sp_Heap_place_of K)) : FnE P w K mg base 3 (He.ma K (He.ga K "Heap") "out") ["self", "name"] [] (sp_Heap_out K) := by
  refine fne T.f_Heap_out sc_Heap_out (fun _ _ _ _ h => h.1) (fun _ _ _ _ _ _ us hl => match us, hl with | [_, _], _ => rfl) fun cdv A outer s H vs Q E hr hsp => ?_
  have nd := sc_Heap_out.nd
  refine ⟨_, (pss_one (ps_ret (pe_bm PySem.F.plainAttrs_list PySem.F.slot_list_pop PySem.F.type_list_pop mt_popAt (pe_fld (pv 0) rfl : PE _ _ (tFld K _ _)) (pa_cons (pmeth (pv 0) T.c_Heap T.m_Heap_place_of F_Heap_place_of (hr.mono (by decide)) (pa_cons (pv 1) pa_nil)) pa_nil) : PE _ _ (tBM K _ _ _ _)))), ?_⟩
  replace hsp := hsp.2
  obtain ⟨a, dx, l, rs, ps, n, r, rfl, h, hn, hr1, q⟩ := hsp
  have hk : (ps.map (·.name)).idxOf n < rs.length := (List.getElem?_eq_some_iff.mp hr1).1
  have hk2 := h.le
  have hk3 := h.rl
  refine ⟨_, rfl, a, _, dx, _, _, rfl, h.at_, T.c_Heap, T.n_Heap_held, rfl, .inl ⟨rfl, _, sq_of h.lst⟩, _, rfl, a, dx, _, rfl, h.at_, rfl, _, rfl, rfl, a, dx, l, rs, ps, n, rfl, h, hn, fun H1 e1 => ?_⟩
  exact ⟨l, _, _, _, _, rfl, rfl, e1 _ _ h.lst, by omega, by omega, seq_ix (by rw [List.length_map]; exact hk), by rw [List.getElem?_map, hr1] <;> rfl, q _ e1.exB.upd (by rw [upd_same, eraseIdx_map'])⟩
def sp_Heap_put (K : PySem.W.Frag) : Sp := spN 3 fun vs H Q _ => ∃ (a dx l : Addr) (rs : List Addr) (ps : List Pcl) (r : Addr) (p : Pcl), vs = [.ref a, .ref r, .non] ∧ HeapIn K H a dx l rs ps ∧ ParcelAt K H r p ∧ p.name ∉ ps.map (·.name) ∧ ps.length < 12 ∧
  ∀ H', ExB l H H' → H' l = some (.lst ((rs ++ [r]).map V.ref)) → Q .non H'
abbrev N_Heap_put : List Str := ["self", "parcel", "ahead", "place"]
theorem sc_Heap_put : FnScope N_Heap_put ["self", "parcel", "ahead"] (defScope s_Heap_put) := ⟨rfl, rfl, rfl, by decide +kernel, rfl, by decide +kernel, by decide +kernel⟩
theorem w_Heap_put {P : Program} {w : World} {K : PySem.W.Frag} {mg : Str → Option Value} {base : Heap} (T : Tp K mg) {dvs : List V} (hb : ∀ fd, FunD K "put" "Heap.put" (defArgs s_Heap_put) (defBody s_Heap_put) (defScope s_Heap_put) [.non] [] (He.ma K (He.ga K "Heap") "put") fd → ∃ ds, Vals dvs ds ∧ Binds K fd ["self", "parcel", "ahead"] ds) (F_Heap_names : FnE P w K mg base 2 (He.ma K (He.ga K "Heap") "names") ["self"] [] (sp_Heap_names K)) (F_Heap_place_of : FnE P w K mg base 2 (He.ma K (He.ga K "Heap") "place_of") ["self", "name"] [] (sp_Heap_place_of K)) (F_Parcel_name : FnE P w K mg base 1 (He.ma K (He.ga K "Parcel") "name") ["self"] [] (sp_Parcel_name K)) : FnE P w K mg base 3 (He.ma K (He.ga K "Heap") "put") ["self", "parcel", "ahead"] dvs (sp_Heap_put K) := by
  refine fneB T.f_Heap_put sc_Heap_put (fun _ _ _ _ h => h.1) hb fun cdv A outer s H vs Q E hr hsp => ?_
  have nd := sc_Heap_put.nd
  refine ⟨_, (pss_cons (ps_if (pt_not (pt_val (pe_callB (r := rIsC (He.ga K "Parcel")) (cIsC T.is_Parcel) (by rfl) T.z_isinstance (by decide +kernel) (pa_cons (pv 1) (pa_cons (pgr T.g_Parcel) pa_nil))))) pss_never pss_nil)
      (pss_cons (ps_if (pt_cmpR (r := rIn K false) op_in_seq (pmeth0 (pv 1) T.c_Parcel T.m_Parcel_name F_Parcel_name (hr.mono (by decide))) (pmeth0 (pv 0) T.c_Heap T.m_Heap_names F_Heap_names (hr.mono (by decide))) (by rfl)) pss_never pss_nil)
      (pss_cons (pset 3 nd (pe_callB (r := rLenQ K) cLenQ (by rfl) T.z_len (by decide +kernel) (pa_cons (pe_fld (pv 0) rfl : PE _ _ (tFld K _ _)) pa_nil)))
      (pss_cons (ps_if (pt_cmpR op_notN (pv 2) pe_non (nomark _)) (pss_one (pset 3 nd (pmeth (pv 0) T.c_Heap T.m_Heap_place_of F_Heap_place_of (hr.mono (by decide)) (pa_cons (pv 2) pa_nil)))) pss_nil)
      (pss_cons (ps_if (pt_cmpR op_eq (pe_callB (r := rLenQ K) cLenQ (by rfl) T.z_len (by decide +kernel) (pa_cons (pe_fld (pv 0) rfl : PE _ _ (tFld K _ _)) pa_nil)) (pgi T.i_MOST_PARCELS) (nomark _)) pss_never pss_nil)
      (pss_one (ps_expr (pe_bm PySem.F.plainAttrs_list PySem.F.slot_list_insert PySem.F.type_list_insert mt_insert (pe_fld (pv 0) rfl : PE _ _ (tFld K _ _)) (pa_cons (pv 3) (pa_cons (pv 1) pa_nil)) : PE _ _ (tBM K _ _ _ _))))))))), ?_⟩
  replace hsp := hsp.2
  obtain ⟨a, dx, l, rs, ps, r, p, rfl, h, hp, hn, hl, q⟩ := hsp
  obtain ⟨dp, s1, m, g1, _⟩ := id hp
  have hk3 := h.rl
  refine ⟨_, rfl, _, _, _, rfl, g1, _, rfl, iteF (by decide) ?_⟩
  refine ⟨_, rfl, r, dp, _, rfl, g1, rfl, rfl, r, p, rfl, hp, _, rfl, a, dx, _, rfl, h.at_, rfl, rfl, a, dx, l, rs, ps, rfl, h, fun p1 H1 np e1 hl1 => ⟨p1, _, rfl, .inl (sq_of hl1), rfl, flat_strs _, _, rfl, iteF ?_ ?_⟩⟩
  · show ¬ inV (.str p.name) ((ps.map (·.name)).map V.str) = true
    rw [inV_str]
    simpa using hn
  have h1 := h.ex e1
  refine ⟨_, rfl, a, _, dx, _, _, rfl, h1.at_, T.c_Heap, T.n_Heap_held, rfl, l, _, rfl, .inl (sq_of h1.lst), ?_⟩
  refine ⟨_, rfl, rfl, _, rfl, iteF (by simp) ?_⟩
  refine ⟨_, rfl, a, _, dx, _, _, rfl, h1.at_, T.c_Heap, T.n_Heap_held, rfl, l, _, rfl, .inl (sq_of h1.lst), rfl, _, rfl, iteF ?_ ?_⟩
  · rw [List.length_map]
    simp
    omega
  refine ⟨_, rfl, a, _, dx, _, _, rfl, h1.at_, T.c_Heap, T.n_Heap_held, rfl, .inl ⟨rfl, _, sq_of h1.lst⟩, _, rfl, _, rfl, l, _, _, _, rfl, rfl, h1.lst, ?_, by omega, ?_, q _ e1.exB.upd ?_⟩
  · exact sz_lt (by rw [List.length_map]; omega)
  · rw [List.length_map]
    omega
  · rw [upd_same, List.length_map, Int.toNat_natCast, List.take_of_length_le (Nat.le_of_eq (List.length_map _)), List.drop_eq_nil_of_le (Nat.le_of_eq (List.length_map _)), List.append_nil, List.map_append] <;> rfl
end BX
/-! the walks: layings -/
namespace BX
open PySem PySem.Spec PyProof.Rows L2
/-! ### ORDERS -/
def natsV (o : List Nat) : List V := o.map fun k => V.int (k : Nat)
def OrdAt (K : PySem.W.Frag) (oa : Addr) (o : List Nat) : Prop := (∃ ob, K.lookup oa = some ob ∧ ob.cls = .type "tuple" ∧ ob.dict = none) ∧ ∀ H, SqT K H oa (natsV o)
theorem isTupI_ok {K : PySem.W.Frag} {v : Value} {o : List Nat} (h : isTupI K v (o.map fun k : Nat => (k : Int)) = true) : ∃ a, v = .ref a ∧ OrdAt K a o := by
  unfold isTupI at h
  split at h
  · rename_i a
    split at h
    · rename_i c its n sl q
      obtain ⟨h1, h2⟩ := He.ba h
      obtain ⟨h3, h4⟩ := He.ba h2
      refine ⟨a, rfl, ⟨_, q, congrArg Value.type (of_decide_eq_true h1), rfl⟩, fun H => .inr ⟨_, its, n, q, congrArg Value.type (of_decide_eq_true h1), rfl, of_decide_eq_true h3, ?_⟩⟩
      have z := He.relAll_ok h4
      rw [List.map_map] at z
      exact z
    · cases h
  · cases h
theorem orders_of {K : PySem.W.Frag} {mg : Str → Option Value} (T : Tp K mg) : ∃ as : List Addr, (∀ H, SqT K H (He.ga K "ORDERS") (as.map V.ref)) ∧ Paired (fun a o => OrdAt K a o) as ordersM := by
  have h := (He.ba (He.ba T.more).2).1
  unfold ordersOk at h
  split at h
  · rename_i c dd its n sl q
    obtain ⟨h1, h2⟩ := He.ba h
    split at h2
    · rename_i va vb vc vd ve vf e
      obtain ⟨g1, h2⟩ := He.ba h2
      obtain ⟨g2, h2⟩ := He.ba h2
      obtain ⟨g3, h2⟩ := He.ba h2
      obtain ⟨g4, h2⟩ := He.ba h2
      obtain ⟨g5, g6⟩ := He.ba h2
      obtain ⟨a1, rfl, o1⟩ := isTupI_ok (o := [0, 1, 2]) g1
      obtain ⟨a2, rfl, o2⟩ := isTupI_ok (o := [0, 2, 1]) g2
      obtain ⟨a3, rfl, o3⟩ := isTupI_ok (o := [1, 0, 2]) g3
      obtain ⟨a4, rfl, o4⟩ := isTupI_ok (o := [1, 2, 0]) g4
      obtain ⟨a5, rfl, o5⟩ := isTupI_ok (o := [2, 0, 1]) g5
      obtain ⟨a6, rfl, o6⟩ := isTupI_ok (o := [2, 1, 0]) g6
      refine ⟨[a1, a2, a3, a4, a5, a6], fun H => .inr ⟨_, its, n, q, congrArg Value.type (of_decide_eq_true h1), rfl, ?_, ?_⟩, .cons o1 (.cons o2 (.cons o3 (.cons o4 (.cons o5 (.cons o6 .nil)))))⟩
      · rw [← Array.length_toList, e]
        exact szl (by simp)
      · rw [e]
        exact .cons rfl (.cons rfl (.cons rfl (.cons rfl (.cons rfl (.cons rfl .nil)))))
    · cases h2
  · cases h
/-! ### beside, turned -/
theorem walk_zipT {K : PySem.W.Frag} {a b : Addr} {xs ys : List V} {n : Nat} (hn : min xs.length ys.length = n) : Walk (RZ.ItzT K a b) n (fun H => SqT K H a xs ∧ SqT K H b ys) (YPair (fun i => xs[i]?) (fun i => ys[i]?)) := by
  subst hn
  refine ⟨fun i H hi q => ?_, fun H q => ⟨xs, ys, q.1, q.2, by omega⟩, fun i H v H' _ q y => ?_⟩
  · have h1 : i < xs.length := by omega
    have h2 : i < ys.length := by omega
    exact ⟨xs, ys, xs[i], ys[i], q.1, q.2, by simp [h1], by simp [h2]⟩
  · obtain ⟨T, x, z, h1, h2, h3, h4, h5⟩ := y
    exact ⟨T, x, z, h1, h2, h3, h4 xs q.1, h5 ys q.2⟩
theorem gN_get {l : List Int} {k : Nat} (h : k < l.length) : l[k]? = some (gN l k) := by
  unfold gN
  rw [List.getD_eq_getElem?_getD, List.getElem?_eq_getElem h] <;> rfl
theorem vi_get {l : List Int} {k : Nat} (h : k < l.length) : atI (l.map V.int) ((k : Nat) : Int) = some (V.int (gN l k)) := atI_nat (by rw [List.getElem?_map, gN_get h] <;> rfl)
theorem max_if (i j : Int) : (if j > i then j else i) = max i j := by
  rw [Int.max_def]
  split <;> split <;> omega
def sp_beside (K : PySem.W.Frag) : Sp := spN 3 fun vs H Q _ => ∃ (f s : Addr) (fs ss : List Int) (ax : Nat), vs = [.ref f, .ref s, .int (ax : Nat)] ∧ SqT K H f (fs.map V.int) ∧ SqT K H s (ss.map V.int) ∧ fs.length = 3 ∧ ss.length = 3 ∧ ax < 3 ∧
  ∀ t H', H t = none → Ex H H' → H' t = some (.tup ((besideM fs ss ax).map V.int)) → Q (.ref t) H'
abbrev N_beside : List Str := ["first", "second", "axis", "three", "one", "other"]
theorem sc_beside : FnScope N_beside ["first", "second", "axis"] (defScope s_beside) := ⟨rfl, rfl, rfl, by decide +kernel, rfl, by decide +kernel, by decide +kernel⟩
theorem w_beside {P : Program} {w : World} {K : PySem.W.Frag} {mg : Str → Option Value} {base : Heap} (T : Tp K mg)  : FnE P w K mg base 1 (He.ga K "beside") ["first", "second", "axis"] [] (sp_beside K) := by
  refine fne T.f_beside sc_beside (fun _ _ _ _ h => h.1) (fun _ _ _ _ _ _ us hl => match us, hl with | [_, _, _], _ => rfl) fun cdv A outer s H vs Q E hr hsp => ?_
  have nd := sc_beside.nd
  refine ⟨_, (pss_cons (ps_setLc (i := 3) (own := [("one", 4), ("other", 5)]) (g := gTup K 2 (gCons (gName 4) (gCons (gName 5) gNil))) rfl nd rfl rfl (sw_true rfl rfl rfl (by decide +kernel)) (RZ.pi_zipA (by rfl) T.z_zip (pa_cons (pv 0) (pa_cons (pv 1) pa_nil)) : PI _ _ _ (RZ.iZipA K _)) (blkOk_by (N := N_beside) (sc := defScope s_beside) (by decide +kernel)) (fun _ _ _ _ _ => (pg_tup rfl (pgs_cons (pgn 4 nd) (pgs_cons (pgn 5 nd) pgs_nil)) : PG _ _ (gTup K _ _))) (fun _ _ _ _ _ => pts_nil) (fun _ _ _ _ _ => (pe_callB (r := rMax2) (cMax2 rfl) (by rfl) T.z_max (by decide +kernel) (pa_cons (pv 4) (pa_cons (pv 5) pa_nil)))))
      (pss_cons (ps_asg (pe_op op_add (pe_ix (r := rIxT K) ix_tup (pv 0) (pv 2) (fun _ _ => rfl)) (pe_ix (r := rIxT K) ix_tup (pv 1) (pv 2) (fun _ _ => rfl))) (pg_sub (pv 3) (pv 2) set_list))
      (pss_one (ps_ret (pe_callTy (r := rTupQ K) cTupQ (by rfl) T.z_tuple (by decide +kernel) (pa_cons (pv 3) pa_nil)))))), ?_⟩
  replace hsp := hsp.2
  obtain ⟨f, s1, fs, ss, ax, rfl, hf, hs, lf, ls, hax, q⟩ := hsp
  have h3 : ∀ i, i < 3 → i < fs.length ∧ i < ss.length := fun i hi => ⟨by omega, by omega⟩
  refine ⟨_, rfl, _, rfl, f, s1, _, _, rfl, .inr ⟨hf, hs, fun D hD => lcE (walk_zipT (xs := fs.map V.int) (ys := ss.map V.int) (n := 3) (by rw [List.length_map, List.length_map, lf, ls] <;> rfl)) (fun i => some (.int (max (gN fs i) (gN ss i)))) hD (sz_lt (by decide)) (fun H1 e => ⟨ex_t e hf, ex_t e hs⟩) (fun i y H1 H2 R S hi e hy k1 k2 => ?_) fun H1 e hD1 => ?_⟩⟩
  · obtain ⟨t, y1, y2, rfl, ht, rfl, h1, h2⟩ := hy
    replace h1 : (fs.map V.int)[i]? = some y1 := h1
    replace h2 : (ss.map V.int)[i]? = some y2 := h2
    rw [List.getElem?_map, gN_get (h3 i hi).1] at h1
    rw [List.getElem?_map, gN_get (h3 i hi).2] at h2
    cases h1
    cases h2
    refine ⟨t, _, rfl, st_of upd_same, rfl, _, _, rfl, _, _, rfl, rfl, rfl, yes (iteT rfl ⟨_, rfl, _, rfl, _, _, rfl, k1 _ _ (Ex.new ht) ?_⟩)⟩
    exact congrArg (fun z => some (V.int z)) (max_if _ _).symm
  · replace hD1 : H1 D = some (.lst [.int (max (gN fs 0) (gN ss 0)), .int (max (gN fs 1) (gN ss 1)), .int (max (gN fs 2) (gN ss 2))]) := hD1
    have nD : H D = none := hD
    refine ⟨_, rfl, _, rfl, f, _, _, _, rfl, rfl, ex_t e hf, vi_get (by omega), _, rfl, _, rfl, s1, _, _, _, rfl, rfl, ex_t e hs, vi_get (by omega), _, _, rfl, rfl, _, rfl, _, rfl, D, _, _, ax, rfl, rfl, hD1, ?_, ?_⟩
    · rcases (show ax = 0 ∨ ax = 1 ∨ ax = 2 by omega) with r | r | r <;> rw [r] <;> rfl
    have e2 : Ex H (upd H1 D (.lst (([.int (max (gN fs 0) (gN ss 0)), .int (max (gN fs 1) (gN ss 1)), .int (max (gN fs 2) (gN ss 2))] : List V).set ax (.int (gN fs ax + gN ss ax))))) := fun a u ha => by
      rw [upd_ne (ne_of_none ha nD)]
      exact e a u ha
    refine ⟨_, rfl, D, _, rfl, .inl ⟨sq_of upd_same, fun p np => q p _ (back e2 np) (e2.trans (Ex.new np)) ?_⟩⟩
    rw [upd_same]
    rcases (show ax = 0 ∨ ax = 1 ∨ ax = 2 by omega) with r | r | r <;> subst r <;> rfl
def sp_turned_three (K : PySem.W.Frag) : Sp := spN 2 fun vs H Q _ => ∃ (t oa : Addr) (xs : List Int) (o : List Nat), vs = [.ref t, .ref oa] ∧ SqT K H t (xs.map V.int) ∧ SqT K H oa (natsV o) ∧ (∀ k ∈ o, k < xs.length) ∧ o.length ≤ 3 ∧
  ∀ t H', H t = none → Ex H H' → H' t = some (.tup ((turnM xs o).map V.int)) → Q (.ref t) H'
abbrev N_turned_three : List Str := ["three", "order", "number"]
theorem sc_turned_three : FnScope N_turned_three ["three", "order"] (defScope s_turned_three) := ⟨rfl, rfl, rfl, by decide +kernel, rfl, by decide +kernel, by decide +kernel⟩
theorem w_turned_three {P : Program} {w : World} {K : PySem.W.Frag} {mg : Str → Option Value} {base : Heap} (T : Tp K mg)  : FnE P w K mg base 1 (He.ga K "turned_three") ["three", "order"] [] (sp_turned_three K) := by
  refine fne T.f_turned_three sc_turned_three (fun _ _ _ _ h => h.1) (fun _ _ _ _ _ _ us hl => match us, hl with | [_, _], _ => rfl) fun cdv A outer s H vs Q E hr hsp => ?_
  have nd := sc_turned_three.nd
  refine ⟨_, (pss_one (ps_ret (pe_callTy (r := rTupQ K) cTupQ (by rfl) T.z_tuple (by decide +kernel) (pa_cons (pe_lc (own := [("number", 2)]) (g := gName 2) rfl nd (pi_tup (pv 1) : PI _ _ _ (iTup K _)) (blkOk_by (N := N_turned_three) (sc := defScope s_turned_three) (by decide +kernel)) (fun _ _ _ _ _ => (pgn 2 nd)) (fun _ _ _ _ _ => pts_nil) (fun _ _ _ _ _ => (pe_ix (r := rIxT K) ix_tup (pv 0) (pv 2) (fun _ _ => rfl)))) pa_nil)))), ?_⟩
  replace hsp := hsp.2
  obtain ⟨t, oa, xs, o, rfl, hx, ho, hk, hl, q⟩ := hsp
  refine ⟨_, rfl, oa, rfl, ⟨_, ho⟩, fun D hD => lcE (walk_tup (xs := natsV o)) (fun i => (o[i]?).map fun k => V.int (gN xs k)) hD (sz_lt (by unfold natsV; rw [List.length_map]; omega)) (fun H1 e => ex_t e ho) (fun i y H1 H2 R S hi e hy k1 k2 => ?_) fun H1 e hD1 => ?_⟩
  · obtain ⟨rfl, hy⟩ := hy
    unfold natsV at hy
    rw [List.getElem?_map] at hy
    obtain ⟨k, hk1, rfl⟩ := Option.map_eq_some_iff.mp hy
    exact ⟨rfl, yes (iteT rfl ⟨_, rfl, _, rfl, t, _, _, _, rfl, rfl, ex_t e hx, vi_get (hk k (List.mem_of_getElem? hk1)), k1 _ _ (Ex.refl _) (by rw [hk1] <;> rfl)⟩)⟩
  · unfold natsV at hD1
    rw [List.length_map, fm_map] at hD1
    refine ⟨D, _, rfl, .inl ⟨sq_of hD1, fun p np => q p _ (back e np) (e.trans (Ex.new np)) ?_⟩⟩
    rw [upd_same]
    unfold turnM
    rw [List.map_map] <;> rfl
end BX
/-! the walks: layings turned, told ones -/
namespace BX
open PySem PySem.Spec PyProof.Rows L2
theorem dpe {K : PySem.W.Frag} {H H' : Hp} {d : PyData} {v : V} (h : Dp K H v d) (e : Ex H H') : Dp K H' v d := dp_ex e d v h
theorem gN_nat (l : List Nat) (k : Nat) : gN (l.map fun k : Nat => (k : Int)) k = ((gO l k : Nat) : Int) := by
  unfold gN gO
  rw [List.getD_eq_getElem?_getD, List.getD_eq_getElem?_getD, List.getElem?_map]
  cases l[k]? <;> rfl
theorem nats_int (o : List Nat) : (o.map fun k : Nat => (k : Int)).map V.int = natsV o := by
  unfold natsV
  rw [List.map_map] <;> rfl
theorem dp_nats {K : PySem.W.Frag} {H : Hp} : ∀ o : List Nat, DpAll K H (natsV o) (o.map fun k : Nat => PyData.int (k : Nat))
  | [] => .nil
  | k :: r => .cons (.int _) (dp_nats r)
theorem nats_dp {K : PySem.W.Frag} {H : Hp} : ∀ {o : List Nat} {vs : List V}, DpAll K H vs (o.map fun k : Nat => PyData.int (k : Nat)) → vs = natsV o
  | [], _, .nil => rfl
  | _ :: r, _, .cons (.int _) h => by rw [nats_dp h] <;> rfl
theorem turn_nat (o' o : List Nat) : (turnM (o'.map fun k : Nat => (k : Int)) o).map V.int = natsV (o.map (gO o')) := by
  unfold turnM natsV
  rw [List.map_map, List.map_map]
  apply List.map_congr_left
  intro k _
  show V.int (gN _ k) = V.int _
  rw [gN_nat] <;> rfl
theorem idx_int : ∀ o ∈ ordersM, ∀ k : Nat, k < 3 → (o.map fun k : Nat => (k : Int)).idxOf (k : Int) = o.idxOf k := by decide
/-- a told laying of one -/
theorem dp_one {K : PySem.W.Frag} {G : Hp} {v : V} {n : Str} {o : List Nat} (h : Dp K G v (papD (.one n o))) : ∃ a b, v = .ref a ∧ SqT K G a [.str "one", .str n, .ref b] ∧ SqT K G b (natsV o) := by
  cases h with
  | tup h1 h2 =>
    cases h2 with
    | cons a1 h2 =>
      cases a1
      cases h2 with
      | cons a2 h2 =>
        cases a2
        cases h2 with
        | cons a3 h2 =>
          cases h2
          cases a3 with
          | tup g1 g2 =>
            rw [nats_dp g2] at g1
            exact ⟨_, _, rfl, h1, g1⟩
theorem dp_by {K : PySem.W.Frag} {G : Hp} {v : V} {ax : Nat} {a b : Pap} (h : Dp K G v (papD (.by ax a b))) : ∃ r va vb, v = .ref r ∧ SqT K G r [.str "by", .int (ax : Nat), va, vb] ∧ Dp K G va (papD a) ∧ Dp K G vb (papD b) := by
  cases h with
  | tup h1 h2 =>
    cases h2 with
    | cons a1 h2 =>
      cases a1
      cases h2 with
      | cons a2 h2 =>
        cases a2
        cases h2 with
        | cons a3 h2 =>
          cases h2 with
          | cons a4 h2 =>
            cases h2
            exact ⟨_, _, _, rfl, h1, a3, a4⟩
theorem dp_ord {K : PySem.W.Frag} {G : Hp} {t : Addr} {o : List Nat} (h : G t = some (.tup (natsV o))) : Dp K G (.ref t) (ordD o) := .tup (st_of h) (dp_nats o)
def sr_turned_by (K : PySem.W.Frag) : Nat → Sp
  | 0 => fun _ _ _ _ => False
  | dp + 1 => spN 2 fun vs H Q _ => ∃ (G : Hp) (v : V) (p : Pap) (oa : Addr) (o : List Nat), vs = [v, .ref oa] ∧ Ex G H ∧ Dp K G v (papD p) ∧ papOk p ∧ OrdAt K oa o ∧ o ∈ ordersM ∧ papDep p ≤ dp + 1 ∧
    ∀ v' G' H', Gr none G H G' H' → Dp K G' v' (papD (turnP o p)) → Q v' H'
abbrev sp_turned_by (K : PySem.W.Frag) : Sp := sr_turned_by K 5
abbrev N_turned_by : List Str := ["laying", "order"]
theorem sc_turned_by : FnScope N_turned_by ["laying", "order"] (defScope s_turned_by) := ⟨rfl, rfl, rfl, by decide +kernel, rfl, by decide +kernel, by decide +kernel⟩
theorem w_turned_by {P : Program} {w : World} {K : PySem.W.Frag} {mg : Str → Option Value} {base : Heap} (T : Tp K mg) (F_turned_three : FnE P w K mg base 1 (He.ga K "turned_three") ["three", "order"] [] (sp_turned_three K)) : ∀ dp, FnE P w K mg base (dp + 1) (He.ga K "turned_by") ["laying", "order"] [] (sr_turned_by K dp)
| 0 => fneF T.f_turned_by (fun vs H Q E h => h.elim) (fun _ _ _ _ _ _ us hl => match us, hl with | [_, _], _ => rfl)
| dp + 1 => by
  have F_turned_by := w_turned_by (P := P) (w := w) (base := base) T F_turned_three dp
  refine fne T.f_turned_by sc_turned_by (fun _ _ _ _ h => h.1) (fun _ _ _ _ _ _ us hl => match us, hl with | [_, _], _ => rfl) fun cdv A outer s H vs Q E hr hsp => ?_
  have nd := sc_turned_by.nd
  refine ⟨_, (pss_cons (ps_if (pt_cmpR op_eq (pe_ix (r := rIxT K) ix_tup (pv 0) pe_int (fun _ _ => rfl)) pe_str (nomark _)) (pss_one (ps_ret (pe_tup (pa_cons pe_str (pa_cons (pe_ix (r := rIxT K) ix_tup (pv 0) pe_int (fun _ _ => rfl)) (pa_cons (pcall F_turned_three (hr.mono (by omega)) T.g_turned_three (pa_cons (pe_ix (r := rIxT K) ix_tup (pv 0) pe_int (fun _ _ => rfl)) (pa_cons (pv 1) pa_nil))) pa_nil)))))) pss_nil)
      (pss_one (ps_ret (pe_tup (pa_cons pe_str (pa_cons (pe_bm PySem.F.plainAttrs_tuple PySem.F.slot_tuple_index PySem.F.type_tuple_index ((mt_tupIx : MtR _ _ (rTIx K))) (pv 1) (pa_cons (pe_ix (r := rIxT K) ix_tup (pv 0) pe_int (fun _ _ => rfl)) pa_nil) : PE _ _ (tBM K _ _ _ _)) (pa_cons (pcall F_turned_by (hr.mono (by omega)) T.g_turned_by (pa_cons (pe_ix (r := rIxT K) ix_tup (pv 0) pe_int (fun _ _ => rfl)) (pa_cons (pv 1) pa_nil))) (pa_cons (pcall F_turned_by (hr.mono (by omega)) T.g_turned_by (pa_cons (pe_ix (r := rIxT K) ix_tup (pv 0) pe_int (fun _ _ => rfl)) (pa_cons (pv 1) pa_nil))) pa_nil)))))))), ?_⟩
  replace hsp := hsp.2
  obtain ⟨G, v, p, oa, o, rfl, s0, hv, hok, ho, hom, hdp, q⟩ := hsp
  cases p with
  | one n o' =>
    obtain ⟨a, b, rfl, h1, h2⟩ := dp_one hv
    have hx := ex_t s0 h1
    have l3 := orders_len o hom
    refine ⟨_, rfl, a, _, 0, _, rfl, rfl, hx, rfl, rfl, _, rfl, iteT (decide_eq_true rfl) ?_⟩
    refine ⟨_, rfl, a, _, 1, _, rfl, rfl, hx, rfl, _, rfl, a, _, 2, _, rfl, rfl, hx, rfl, _, rfl, rfl, b, oa, o'.map (fun k : Nat => (k : Int)), o, rfl, by rw [nats_int]; exact ex_t s0 h2, ho.2 _, fun k hk => by rw [List.length_map, orders_len o' hok]; exact orders_lt o hom k hk, by omega, fun t H' nt e ht => ⟨szl (by simp), fun r nr => ?_⟩⟩
    rw [turn_nat] at ht
    have g0 : Gr none G H G H' := (Gr.start s0).exH e
    have g1 := g0.keep nt (back s0 nt) ht
    refine q (.ref r) _ _ (g1.new nr) (.tup (st_of upd_same) (.cons (.str _) (.cons (.str _) (.cons (dpe (dp_ord upd_same) (Ex.new (back g1.s nr))) .nil))))
  | «by» ax pa pb =>
    obtain ⟨a, va, vb, rfl, h1, da, db⟩ := dp_by hv
    obtain ⟨k1, k2, k3⟩ := hok
    have hx := ex_t s0 h1
    have dpa : papDep pa ≤ dp := by
      have : max (papDep pa) (papDep pb) + 1 ≤ dp + 1 := hdp
      omega
    have dpb : papDep pb ≤ dp := by
      have : max (papDep pa) (papDep pb) + 1 ≤ dp + 1 := hdp
      omega
    refine ⟨_, rfl, a, _, 0, _, rfl, rfl, hx, rfl, rfl, _, rfl, iteF (by decide +kernel) ?_⟩
    obtain ⟨ob, b1, b2, b3⟩ := ho.1
    have po : ∀ x : Pap, 1 ≤ papDep x := fun x => by
      cases x with
      | one _ _ => exact Nat.le_refl _
      | «by» _ _ _ => exact Nat.succ_le_succ (Nat.zero_le _)
    obtain ⟨dq, rfl⟩ : ∃ dq, dp = dq + 1 := ⟨dp - 1, by have := po pa; omega⟩
    refine ⟨_, rfl, .inr (.inl ⟨rfl, ob, b1, b2, b3⟩), _, rfl, a, _, 1, _, rfl, rfl, hx, rfl, oa, o.map (fun k : Nat => (k : Int)), _, rfl, rfl, by rw [nats_int]; exact ho.2 _, List.mem_map_of_mem (orders_has o hom ax k1), ?_⟩
    refine ⟨_, rfl, a, _, 2, _, rfl, rfl, hx, rfl, _, rfl, rfl, G, va, pa, oa, o, rfl, s0, da, k2, ho, hom, dpa, fun v1 G1 H1 g1 d1 => ?_⟩
    refine ⟨_, rfl, a, _, 3, _, rfl, rfl, ex_t g1.e hx, rfl, _, rfl, rfl, G1, vb, pb, oa, o, rfl, g1.s, dpe db g1.g, k3, ho, hom, dpb, fun v2 G2 H2 g2 d2 => ⟨szl (by simp), fun r nr => ?_⟩⟩
    have g3 := g1.step g2
    have e3 : Ex G2 (upd G2 r (.tup [.str "by", .int ((o.idxOf ax : Nat) : Int), v1, v2])) := Ex.new (back g3.s nr)
    rw [idx_int o hom ax k1]
    exact q (.ref r) _ _ (g3.new nr) (.tup (st_of upd_same) (.cons (.str _) (.cons (.int _) (.cons (dpe d1 (g2.g.trans e3)) (.cons (dpe d2 e3) .nil)))))
/-! ### Laid -/
def fldL (v : V) (t f : Addr) : List (Str × V) := [("paper", v), ("three", .ref t), ("falling", .ref f)]
def LaidAt (K : PySem.W.Frag) (G : Hp) (a : Addr) (x : Pap × List Int) : Prop := ∃ dx v t f, G a = some (.ins (cL K) dx (fldL v t f)) ∧ Dp K G v (papD x.1) ∧ G t = some (.tup (x.2.map V.int)) ∧ G f = some (.lst ((srtI true x.2).map V.int)) ∧ x.2.length = 3
theorem LaidAt.ex {K : PySem.W.Frag} {G G' : Hp} {a : Addr} {x : Pap × List Int} (h : LaidAt K G a x) (e : Ex G G') : LaidAt K G' a x :=
  let ⟨dx, v, t, f, h1, h2, h3, h4, h5⟩ := h
  ⟨dx, v, t, f, e _ _ h1, dpe h2 e, e _ _ h3, e _ _ h4, h5⟩
theorem srtI_len (b : Bool) (l : List Int) : (srtI b l).length = l.length := by
  unfold srtI
  exact List.length_mergeSort _
def sp_Laid_init (K : PySem.W.Frag) : Sp := spN 3 fun vs H Q _ => ∃ (x dx : Addr) (v : V) (t : Addr) (three : List Int), vs = [.ref x, v, .ref t] ∧ H x = some (.ins (cL K) dx []) ∧ H t = some (.tup (three.map V.int)) ∧
  ∀ f H2, H f = none → ExB x H H2 → H2 f = some (.lst ((srtI true three).map V.int)) → H2 x = some (.ins (cL K) dx (fldL v t f)) → Q .non H2
abbrev N_Laid_init : List Str := ["self", "paper", "three"]
theorem sc_Laid_init : FnScope N_Laid_init ["self", "paper", "three"] (defScope s_Laid_init) := ⟨rfl, rfl, rfl, by decide +kernel, rfl, by decide +kernel, by decide +kernel⟩
theorem w_Laid_init {P : Program} {w : World} {K : PySem.W.Frag} {mg : Str → Option Value} {base : Heap} (T : Tp K mg)  : FnE P w K mg base 1 (He.ma K (He.ga K "Laid") "__init__") ["self", "paper", "three"] [] (sp_Laid_init K) := by
  refine fne T.f_Laid_init sc_Laid_init (fun _ _ _ _ h => h.1) (fun _ _ _ _ _ _ us hl => match us, hl with | [_, _, _], _ => rfl) fun cdv A outer s H vs Q E hr hsp => ?_
  have nd := sc_Laid_init.nd
  refine ⟨_, (pss_cons (ps_fld (pv 0) (pv 1) rfl : PS _ _ (sFld K _ _ _))
      (pss_cons (ps_fld (pv 0) (pv 2) rfl : PS _ _ (sFld K _ _ _))
      (pss_one (ps_fld (pv 0) (pe_callBK (r := rSrtR K) (cSrtR (hu64 hr)) (by rfl) T.z_sorted (by decide +kernel) (pa_cons (pv 2) pa_nil) (pk_cons pe_bl pk_nil)) rfl : PS _ _ (sFld K _ _ _))))), ?_⟩
  replace hsp := hsp.2
  obtain ⟨x, dx, v, t, three, rfl, hx, ht, q⟩ := hsp
  have ne : t ≠ x := ne_of ht hx (fun z => nomatch z)
  refine ⟨_, rfl, _, rfl, x, _, dx, _, rfl, hx, T.c_Laid, T.n_Laid_paper, by decide, ?_⟩
  refine ⟨_, rfl, _, rfl, x, _, dx, [("paper", v)], rfl, upd_same, T.c_Laid, T.n_Laid_three, by simp, ?_⟩
  refine ⟨_, rfl, t, three, rfl, rfl, .inr (st_of (by rw [upd_ne ne, upd_ne ne]; exact ht)), fun p np => ⟨_, rfl, x, _, dx, [("paper", v), ("three", .ref t)], rfl, by rw [upd_ne (ne_of_none upd_same np)]; exact upd_same, T.c_Laid, T.n_Laid_falling, by simp, ?_⟩⟩
  have nx : p ≠ x := fun z => by
    rw [z, upd_same] at np
    cases np
  have np0 : H p = none := by
    rw [upd_ne nx, upd_ne nx] at np
    exact np
  refine q p _ np0 (ExB.upd fun b u hb hu => ?_) (by rw [upd_ne nx, upd_same]) upd_same
  rw [upd_ne (ne_of_none hu np0), upd_ne hb, upd_ne hb]
  exact hu
def sp_Laid_holds (K : PySem.W.Frag) : Sp := spN 2 fun vs H Q _ => ∃ (x dx : Addr) (v : V) (t f g : Addr) (fs gs : List Int), vs = [.ref x, .ref g] ∧ H x = some (.ins (cL K) dx (fldL v t f)) ∧ SqL K H f (fs.map V.int) ∧ SqL K H g (gs.map V.int) ∧ fs.length = 3 ∧ gs.length = 3 ∧ ∀ H', Ex H H' → Q (.bl (leM fs gs)) H'
abbrev N_Laid_holds : List Str := ["self", "falling", "own", "side"]
theorem sc_Laid_holds : FnScope N_Laid_holds ["self", "falling"] (defScope s_Laid_holds) := ⟨rfl, rfl, rfl, by decide +kernel, rfl, by decide +kernel, by decide +kernel⟩
theorem w_Laid_holds {P : Program} {w : World} {K : PySem.W.Frag} {mg : Str → Option Value} {base : Heap} (T : Tp K mg)  : FnE P w K mg base 1 (He.ma K (He.ga K "Laid") "holds") ["self", "falling"] [] (sp_Laid_holds K) := by
  refine fne T.f_Laid_holds sc_Laid_holds (fun _ _ _ _ h => h.1) (fun _ _ _ _ _ _ us hl => match us, hl with | [_, _], _ => rfl) fun cdv A outer s H vs Q E hr hsp => ?_
  have nd := sc_Laid_holds.nd
  refine ⟨_, (pss_one (ps_ret (pe_callB (r := rAll K) (cr_all rfl) (by rfl) T.z_all (by decide +kernel) (pa_cons (pe_lc (own := [("own", 2), ("side", 3)]) (g := gTup K 2 (gCons (gName 2) (gCons (gName 3) gNil))) rfl nd (pi_zip (by rfl) T.z_zip (pa_cons (pe_fld (pv 0) rfl : PE _ _ (tFld K _ _)) (pa_cons (pv 1) pa_nil)) : PI _ _ _ (iZip K _)) (blkOk_by (N := N_Laid_holds) (sc := defScope s_Laid_holds) (by decide +kernel)) (fun _ _ _ _ _ => (pg_tup rfl (pgs_cons (pgn 2 nd) (pgs_cons (pgn 3 nd) pgs_nil)) : PG _ _ (gTup K _ _))) (fun _ _ _ _ _ => pts_nil) (fun _ _ _ _ _ => (pe_cmpR op_le (pv 2) (pv 3) (nomark _)))) pa_nil)))), ?_⟩
  replace hsp := hsp.2
  obtain ⟨x, dx, v, t, f, g, fs, gs, rfl, hx, hf, hg, lf, lg, q⟩ := hsp
  refine ⟨_, rfl, _, _, _, _, _, rfl, hx, T.c_Laid, T.n_Laid_falling, rfl, _, rfl, f, g, _, _, rfl, hf, hg, fun D hD => lcE (walk_zip (xs := fs.map V.int) (ys := gs.map V.int) (n := 3) (by rw [List.length_map, List.length_map, lf, lg] <;> rfl)) (fun i => some (.bl (decide (gN fs i ≤ gN gs i)))) hD (sz_lt (by decide)) (fun H1 e => ⟨ex_l e hf, ex_l e hg⟩) (fun i y H1 H2 R S hi e hy k1 k2 => ?_) fun H1 e hD1 => ?_⟩
  · obtain ⟨t, y1, y2, rfl, ht, rfl, h1, h2⟩ := hy
    replace h1 : (fs.map V.int)[i]? = some y1 := h1
    replace h2 : (gs.map V.int)[i]? = some y2 := h2
    rw [List.getElem?_map, gN_get (by omega)] at h1
    rw [List.getElem?_map, gN_get (by omega)] at h2
    cases h1
    cases h2
    exact ⟨t, _, rfl, st_of upd_same, rfl, _, _, rfl, _, _, rfl, rfl, rfl, yes (iteT rfl ⟨_, rfl, _, rfl, _, _, rfl, rfl, k1 _ _ (Ex.new ht) rfl⟩)⟩
  · exact ⟨D, [decide (gN fs 0 ≤ gN gs 0), decide (gN fs 1 ≤ gN gs 1), decide (gN fs 2 ≤ gN gs 2)], rfl, sq_of hD1, q _ e⟩
/-- a list of told ones -/
def LdsAt (K : PySem.W.Frag) (G : Hp) (rs : List Addr) (ls : List (Pap × List Int)) : Prop := Paired (fun a x => LaidAt K G a x) rs ls
theorem LdsAt.ex {K : PySem.W.Frag} {G G' : Hp} {rs : List Addr} {ls : List (Pap × List Int)} (h : LdsAt K G rs ls) (e : Ex G G') : LdsAt K G' rs ls := Paired.mapP h fun _ _ z => z.ex e
def sp_is_held (K : PySem.W.Frag) : Sp := spN 2 fun vs H Q _ => ∃ (l t : Addr) (rs : List Addr) (ls : List (Pap × List Int)) (three : List Int), vs = [.ref l, .ref t] ∧ SqL K H l (rs.map V.ref) ∧ LdsAt K H rs ls ∧ SqT K H t (three.map V.int) ∧ three.length = 3 ∧ ∀ H', Ex H H' → Q (.bl (heldM ls three)) H'
abbrev N_is_held : List Str := ["listed", "three", "falling", "laid"]
theorem sc_is_held : FnScope N_is_held ["listed", "three"] (defScope s_is_held) := ⟨rfl, rfl, rfl, by decide +kernel, rfl, by decide +kernel, by decide +kernel⟩
theorem w_is_held {P : Program} {w : World} {K : PySem.W.Frag} {mg : Str → Option Value} {base : Heap} (T : Tp K mg) (F_Laid_holds : FnE P w K mg base 1 (He.ma K (He.ga K "Laid") "holds") ["self", "falling"] [] (sp_Laid_holds K)) : FnE P w K mg base 2 (He.ga K "is_held") ["listed", "three"] [] (sp_is_held K) := by
  refine fne T.f_is_held sc_is_held (fun _ _ _ _ h => h.1) (fun _ _ _ _ _ _ us hl => match us, hl with | [_, _], _ => rfl) fun cdv A outer s H vs Q E hr hsp => ?_
  have nd := sc_is_held.nd
  refine ⟨_, (pss_cons (pset 2 nd (pe_callBK (r := rSrtR K) (cSrtR (hu64 hr)) (by rfl) T.z_sorted (by decide +kernel) (pa_cons (pv 1) pa_nil) (pk_cons pe_bl pk_nil)))
      (pss_cons (ps_for PassesOwn.never rfl (pi_list (pv 0) : PI _ _ _ (iList K _)) (pgn 3 nd) (pss_one (ps_if (pt_val (pmeth (pv 3) T.c_Laid T.m_Laid_holds F_Laid_holds (hr.mono (by decide)) (pa_cons (pv 2) pa_nil))) (pss_one (ps_ret pe_bl)) pss_nil)))
      (pss_one (ps_ret pe_bl)))), ?_⟩
  replace hsp := hsp.2
  obtain ⟨l, t, rs, ls, three, rfl, hl, hls, ht, h3, q⟩ := hsp
  refine ⟨_, rfl, t, three, rfl, rfl, .inr ht, fun p np => ?_⟩
  have e0 : Ex H (upd H p (.lst ((srtI true three).map V.int))) := Ex.new np
  refine ⟨_, rfl, l, rfl, ⟨_, ex_l e0 hl⟩, forE (walk_list (xs := rs.map V.ref)) (fun i σ H' => Ex (upd H p (.lst ((srtI true three).map V.int))) H' ∧ (∃ o, σ = [some (.ref l), some (.ref t), some (.ref p), o]) ∧ ∀ j x, j < i → ls[j]? = some x → leM (srtI true x.2) (srtI true three) = false) ⟨Ex.refl _, ⟨none, rfl⟩, fun j x hj => absurd hj (Nat.not_lt_zero _)⟩ (fun i σ H' _ pv => ex_l (e0.trans pv.1) hl) (fun i y σ H1 H2 N hi pv hy k => ?_) fun σ H' pv => ?_⟩
  · obtain ⟨e1, ⟨o, rfl⟩, hno⟩ := pv
    obtain ⟨rfl, hy⟩ := hy
    rw [List.getElem?_map] at hy
    obtain ⟨r, hr1, rfl⟩ := Option.map_eq_some_iff.mp hy
    obtain ⟨x, hx, dx, v, t2, f, g1, g2, g3, g4, g5⟩ := pr_at (hls.ex (e0.trans e1)) hr1
    refine ⟨_, rfl, r, dx, _, rfl, g1, rfl, _, rfl, rfl, r, dx, v, t2, f, p, _, srtI true three, rfl, g1, sq_of g4, sq_of (e1 _ _ upd_same), by rw [srtI_len, g5], by rw [srtI_len, h3], fun H3 e3 => ⟨_, rfl, ?_⟩⟩
    cases e : leM (srtI true x.2) (srtI true three) with
    | true =>
      refine iteT rfl ?_
      have hh : heldM ls three = true := List.any_eq_true.mpr ⟨x, List.mem_of_getElem? hx, e⟩
      have q2 := q _ ((e0.trans e1).trans e3)
      rw [hh] at q2
      exact q2
    | false =>
      refine iteF (by decide) (k _ _ ⟨e1.trans e3, ⟨_, rfl⟩, fun j x2 hj hx2 => ?_⟩)
      rcases Nat.lt_succ_iff_lt_or_eq.mp hj with z | z
      · exact hno j x2 z hx2
      · subst z
        rw [hx] at hx2
        cases hx2
        exact e
  · obtain ⟨e1, _, hno⟩ := pv
    have hh : heldM ls three = false := by
      rw [← Bool.not_eq_true]
      intro z
      obtain ⟨x, hx, e⟩ := List.any_eq_true.mp z
      obtain ⟨j, hj, ej⟩ := List.mem_iff_getElem.mp hx
      have := hno j x (by rw [List.length_map, hls.length]; exact hj) (by rw [List.getElem?_eq_getElem hj, ej])
      rw [this] at e
      cases e
    have q2 := q _ (e0.trans e1)
    rw [hh] at q2
    exact q2
end BX
/-! the walks: all ways, with two -/
namespace BX
open PySem PySem.Spec PyProof.Rows L2
theorem walk_rg {n : Nat} : Walk (Itr 0 n) n (fun _ => True) (YFn fun i => .int ((i : Nat) : Int)) :=
  walk_range.mono (fun _ h => h) fun i H x H' _ _ y => ⟨y.1, y.2.trans (congrArg V.int (Int.zero_add _))⟩
/-- what a new object leaves out -/
theorem upn {G H : Hp} {p D : Addr} {o x : HO} (h : G D = none) (hD : H D = some o) (np : H p = none) : upd G p x D = none := by
  rw [upd_ne (ne_of_none hD np)]
  exact h
theorem upk {H : Hp} {p D : Addr} {o x : HO} (hD : H D = some o) (np : H p = none) : upd H p x D = some o := by
  rw [upd_ne (ne_of_none hD np)]
  exact hD
def WayAt (K : PySem.W.Frag) (G : Hp) (r : Addr) (w : Way) : Prop := ∃ oa t, G r = some (.tup [.ref oa, .int (w.2.1 : Nat), .ref t]) ∧ OrdAt K oa w.1 ∧ w.1 ∈ ordersM ∧ w.2.1 < 3 ∧ G t = some (.tup (w.2.2.map V.int)) ∧ w.2.2.length = 3
theorem WayAt.ex {K : PySem.W.Frag} {G G' : Hp} {a : Addr} {w : Way} (h : WayAt K G a w) (e : Ex G G') : WayAt K G' a w :=
  let ⟨oa, t, h1, h2, h3, h4, h5, h6⟩ := h
  ⟨oa, t, e _ _ h1, h2, h3, h4, e _ _ h5, h6⟩
def WsAt (K : PySem.W.Frag) (G : Hp) (rs : List Addr) (ws : List Way) : Prop := Paired (fun a w => WayAt K G a w) rs ws
theorem WsAt.ex {K : PySem.W.Frag} {G G' : Hp} {rs : List Addr} {ws : List Way} (h : WsAt K G rs ws) (e : Ex G G') : WsAt K G' rs ws := Paired.mapP h fun _ _ z => z.ex e
theorem pr_app {α β : Type} {F : α → β → Prop} : ∀ {l l' : List α} {m m' : List β}, Paired F l m → Paired F l' m' → Paired F (l ++ l') (m ++ m')
  | _, _, _, _, .nil, h => h
  | _, _, _, _, .cons h t, h2 => .cons h (pr_app t h2)
theorem besideM_len (f s : List Int) (ax : Nat) : (besideM f s ax).length = 3 := rfl
theorem turnM_len (s : List Int) (o : List Nat) : (turnM s o).length = o.length := List.length_map _
def sp_all_ways (K : PySem.W.Frag) : Sp := spN 2 fun vs H Q _ => ∃ (G : Hp) (a b : Addr) (x y : Ld), vs = [.ref a, .ref b] ∧ Ex G H ∧ LaidAt K G a x ∧ LaidAt K G b y ∧
  ∀ p rs G' H', Gr none G H G' H' → G' p = some (.lst (rs.map V.ref)) → WsAt K G' rs (waysM x.2 y.2) → Q (.ref p) H'
abbrev N_all_ways : List Str := ["one", "other", "found", "order", "turned", "axis"]
theorem sc_all_ways : FnScope N_all_ways ["one", "other"] (defScope s_all_ways) := ⟨rfl, rfl, rfl, by decide +kernel, rfl, by decide +kernel, by decide +kernel⟩
theorem w_all_ways {P : Program} {w : World} {K : PySem.W.Frag} {mg : Str → Option Value} {base : Heap} (T : Tp K mg) (F_beside : FnE P w K mg base 1 (He.ga K "beside") ["first", "second", "axis"] [] (sp_beside K)) (F_turned_three : FnE P w K mg base 1 (He.ga K "turned_three") ["three", "order"] [] (sp_turned_three K)) : FnE P w K mg base 2 (He.ga K "all_ways") ["one", "other"] [] (sp_all_ways K) := by
  refine fne T.f_all_ways sc_all_ways (fun _ _ _ _ h => h.1) (fun _ _ _ _ _ _ us hl => match us, hl with | [_, _], _ => rfl) fun cdv A outer s H vs Q E hr hsp => ?_
  have nd := sc_all_ways.nd
  refine ⟨_, (pss_cons (pset 2 nd (pe_lst pa_nil))
      (pss_cons (ps_for PassesOwn.never rfl (pi_tup (pgr T.g_ORDERS) : PI _ _ _ (iTup K _)) (pgn 3 nd) (pss_cons (pset 4 nd (pcall F_turned_three (hr.mono (by decide)) T.g_turned_three (pa_cons (pe_fld (pv 1) rfl : PE _ _ (tFld K _ _)) (pa_cons (pv 3) pa_nil))))
      (pss_one (ps_expr (pe_bm PySem.F.plainAttrs_list PySem.F.slot_list_extend PySem.F.type_list_extend mt_extend (pv 2) (pa_cons (pe_lc (own := [("axis", 5)]) (g := gName 5) rfl nd (pi_range1 (by rfl) T.z_range (pa_cons pe_int pa_nil)) (blkOk_by (N := N_all_ways) (sc := defScope s_all_ways) (by decide +kernel)) (fun _ _ _ _ _ => (pgn 5 nd)) (fun _ _ _ _ _ => pts_nil) (fun _ _ _ _ _ => (pe_tup (pa_cons (pv 3) (pa_cons (pv 5) (pa_cons (pcall F_beside (hr.mono (by decide)) T.g_beside (pa_cons (pe_fld (pv 0) rfl : PE _ _ (tFld K _ _)) (pa_cons (pv 4) (pa_cons (pv 5) pa_nil)))) pa_nil)))))) pa_nil) : PE _ _ (tBM K _ _ _ _))))))
      (pss_one (ps_ret (pv 2))))), ?_⟩
  replace hsp := hsp.2
  obtain ⟨G, a, b, x, y, rfl, s0, ha, hb, q⟩ := hsp
  obtain ⟨as, hO, hP⟩ := orders_of T
  obtain ⟨dxa, va, ta, fa, a1, a2, a3, a4, a5⟩ := ha
  obtain ⟨dxb, vb, tb, fb, b1, b2, b3, b4, b5⟩ := hb
  refine ⟨szl (by simp), fun l0 nl0 => ⟨_, rfl, ⟨_, hO _⟩, forE (walk_tup (xs := as.map V.ref)) (fun i σ H' => ∃ G' o3 o4 o5 rs, σ = [some (.ref a), some (.ref b), some (.ref l0), o3, o4, o5] ∧ Gr none G H G' H' ∧ G' l0 = none ∧ H' l0 = some (.lst (rs.map V.ref)) ∧ WsAt K G' rs ((ordersM.take i).flatMap (ways3 x.2 y.2)))
    ⟨G, none, none, none, [], rfl, (Gr.start s0).mut nl0 (back s0 nl0), back s0 nl0, upd_same, .nil⟩ (fun i σ H' _ _ => hO _) (fun i z σ H1 H2 N hi pv hy k => ?_) fun σ H' pv => ?_⟩⟩
  · obtain ⟨G1, o3, o4, o5, rs, rfl, g1, gl1, hl1, hw1⟩ := pv
    obtain ⟨rfl, hy⟩ := hy
    rw [List.getElem?_map] at hy
    obtain ⟨oa, hoa, rfl⟩ := Option.map_eq_some_iff.mp hy
    obtain ⟨o, ho, hor⟩ := pr_at hP hoa
    have hom : o ∈ ordersM := List.mem_of_getElem? ho
    have l3 := orders_len o hom
    have up : Ex G H2 := g1.g.trans g1.s
    refine ⟨_, rfl, b, _, dxb, _, _, rfl, up _ _ b1, T.c_Laid, T.n_Laid_three, rfl, _, rfl, rfl, tb, oa, y.2, o, rfl, st_of (up _ _ b3), hor.2 _, fun k hk => by rw [b5]; exact orders_lt o hom k hk, by omega, fun t H3 nt e3 ht => ?_⟩
    have g2 := (g1.exH e3).keep (g1.free nt) (back g1.s nt) ht
    have gl2 : upd G1 t (.tup ((turnM y.2 o).map V.int)) l0 = none := upn gl1 hl1 nt
    have hl3 := e3 _ _ hl1
    refine ⟨_, rfl, .inl ⟨rfl, _, sq_of hl3⟩, _, rfl, by decide, by decide, fun D nD => lcP (m := none) (walk_rg (n := 3)) (Gr.start (G := upd G1 t (.tup ((turnM y.2 o).map V.int))) (H := H3) g2.s) nD (fun _ z => by cases z) (by decide)
      (fun j G4 H4 acc => ∃ r3, acc = r3.map V.ref ∧ WsAt K G4 r3 ((ways3 x.2 y.2 o).take j)) (fun _ _ _ _ _ _ _ _ => trivial) ⟨[], rfl, .nil⟩ (fun j v G4 H4 acc H5 N1 S1 hj g4 e4 gD hD hR hy k1 k2 => ?_) fun G4 H4 acc g4 e4 gD hD hR => ?_⟩
    · obtain ⟨r3, rfl, hr3⟩ := hR
      obtain ⟨rfl, rfl⟩ := hy
      have up4 : Ex G H5 := (up.trans e3).trans g4.e
      have ht4 : H5 t = some (.tup ((turnM y.2 o).map V.int)) := g4.s _ _ (e4 _ _ upd_same)
      refine ⟨rfl, yes (iteT rfl ⟨_, rfl, _, rfl, _, rfl, a, _, dxa, _, _, rfl, up4 _ _ a1, T.c_Laid, T.n_Laid_three, rfl, _, rfl, _, rfl, rfl, ta, t, x.2, turnM y.2 o, j, rfl, st_of (up4 _ _ a3), st_of ht4, a5, by rw [turnM_len, l3], hj, fun u H6 nu e5 hu => ⟨szl (by simp), fun r nr => ?_⟩⟩)⟩
      have gu := (g4.exH e5).keep (g4.free nu) (back g4.s nu) hu
      have gr := gu.new (o := .tup [.ref oa, .int ((j : Nat) : Int), .ref u]) nr
      have hD5 := e5 _ _ hD
      have gD5 : upd G4 u (.tup ((besideM x.2 (turnM y.2 o) j).map V.int)) D = none := upn gD hD nu
      refine k1 _ _ _ gr ((e4.trans (Ex.new (back g4.s nu))).trans (Ex.new (back gu.s nr))) (upn gD5 hD5 nr) (upk hD5 nr) ⟨r3 ++ [r], by rw [List.map_append] <;> rfl, ?_⟩
      have e6 : (ways3 x.2 y.2 o).take (j + 1) = (ways3 x.2 y.2 o).take j ++ [(o, j, besideM x.2 (turnM y.2 o) j)] := by
        rw [List.take_succ]
        congr 1
        unfold ways3
        rw [List.getElem?_map, List.getElem?_range hj] <;> rfl
      rw [e6]
      exact pr_app (hr3.ex ((Ex.new (back g4.s nu)).trans (Ex.new (back gu.s nr)))) (.cons ⟨oa, u, upd_same, hor, hom, hj, upk upd_same (back gu.s nr), besideM_len _ _ _⟩ .nil)
    · obtain ⟨r3, rfl, hr3⟩ := hR
      have hl4 := g4.e _ _ hl3
      have gl4 := g4.out gl2 hl3
      have g5 := g2.step g4
      have w3 : (ways3 x.2 y.2 o).take 3 = ways3 x.2 y.2 o := rfl
      rw [w3] at hr3
      have lr : r3.length = 3 := hr3.length
      have lw : rs.length ≤ 18 := by
        rw [hw1.length]
        have : (waysM x.2 y.2).length = 18 := waysM_len _ _
        have h2 : (ordersM.take i).flatMap (ways3 x.2 y.2) ++ (ordersM.drop i).flatMap (ways3 x.2 y.2) = waysM x.2 y.2 := by
          rw [← List.flatMap_append, List.take_append_drop] <;> rfl
        have h3 := congrArg List.length h2
        rw [List.length_append] at h3
        omega
      refine ⟨l0, D, _, _, rfl, rfl, hl4, hD, by rw [List.length_map, List.length_map]; exact sz_of (by omega), k _ _ ⟨G4, _, _, _, rs ++ r3, rfl, g5.mut nl0 gl4, gl4, by rw [upd_same, List.map_append], ?_⟩⟩
      have e6 : (ordersM.take (i + 1)).flatMap (ways3 x.2 y.2) = (ordersM.take i).flatMap (ways3 x.2 y.2) ++ ways3 x.2 y.2 o := by
        rw [List.take_succ, List.flatMap_append, ho]
        simp
      rw [e6]
      exact pr_app (hw1.ex ((Ex.new (back g1.s nt)).trans e4)) hr3
  · obtain ⟨G1, o3, o4, o5, rs, rfl, g1, gl1, hl1, hw1⟩ := pv
    have la : (as.map V.ref).length = 6 := by rw [List.length_map, hP.length] <;> rfl
    rw [la] at hw1
    exact ⟨_, rfl, q l0 rs _ _ (g1.keep nl0 gl1 hl1) upd_same (hw1.ex (Ex.new gl1))⟩
end BX
/-! the mathematics: choices and partings -/
namespace BX
open PySem
def chosenM : List Str → Nat → List (List Str)
  | _, 0 => [[]]
  | [], _ + 1 => []
  | n :: r, k + 1 => (chosenM r k).map (n :: ·) ++ chosenM r (k + 1)
/-- found behind i turns of the loop -/
def chosenU (ns : List Str) (k i : Nat) : List (List Str) := (List.range i).flatMap fun j => (chosenM (ns.drop (j + 1)) k).map ((ns.getD j "") :: ·)
theorem chosenU_succ (ns : List Str) (k i : Nat) : chosenU ns k (i + 1) = chosenU ns k i ++ (chosenM (ns.drop (i + 1)) k).map ((ns.getD i "") :: ·) := by
  unfold chosenU
  rw [List.range_succ, List.flatMap_append]
  simp
theorem chosenU_cons (n : Str) (r : List Str) (k : Nat) : ∀ i, chosenU (n :: r) k (i + 1) = (chosenM r k).map (n :: ·) ++ chosenU r k i
  | 0 => by
    rw [chosenU_succ]
    simp [chosenU]
  | i + 1 => by
    rw [chosenU_succ, chosenU_cons n r k i, chosenU_succ, List.append_assoc]
    simp
theorem chosenU_all : ∀ (ns : List Str) (k : Nat), chosenU ns k ns.length = chosenM ns (k + 1)
  | [], _ => rfl
  | n :: r, k => by
    rw [List.length_cons, chosenU_cons, chosenU_all r k] <;> rfl
theorem chosenM_len : ∀ (ns : List Str) (k : Nat), (chosenM ns k).length ≤ 2 ^ ns.length
  | _, 0 => by
    unfold chosenM
    exact Nat.one_le_two_pow
  | [], _ + 1 => by simp [chosenM]
  | n :: r, k + 1 => by
    unfold chosenM
    rw [List.length_append, List.length_map, List.length_cons, Nat.pow_succ]
    have h1 := chosenM_len r k
    have h2 := chosenM_len r (k + 1)
    omega
theorem chosenM_len4 {ns : List Str} (h : ns.length ≤ 4) (k : Nat) : (chosenM ns k).length ≤ 16 := by
  have h1 := chosenM_len ns k
  have h2 : 2 ^ ns.length ≤ 2 ^ 4 := Nat.pow_le_pow_right (by decide) h
  omega
theorem chosenU_le (ns : List Str) (k i : Nat) (h : i ≤ ns.length) : (chosenU ns k i).length ≤ (chosenM ns (k + 1)).length := by
  have key : ∀ d i, i + d = ns.length → (chosenU ns k i).length ≤ (chosenU ns k ns.length).length := by
    intro d
    induction d with
    | zero =>
      intro i hi
      have e : i = ns.length := by omega
      rw [e]
      exact Nat.le_refl _
    | succ d ih =>
      intro i hi
      have z := ih (i + 1) (by omega)
      rw [chosenU_succ, List.length_append] at z
      omega
  have z := key (ns.length - i) i (by omega)
  rw [chosenU_all] at z
  exact z
theorem chosenM_mem : ∀ {ns : List Str} {k : Nat} {c : List Str}, c ∈ chosenM ns k → c.length = k ∧ c.Sublist ns
  | _, 0, c, h => by
    unfold chosenM at h
    rw [List.mem_singleton] at h
    rw [h]
    exact ⟨rfl, List.nil_sublist _⟩
  | [], _ + 1, c, h => by
    unfold chosenM at h
    cases h
  | n :: r, k + 1, c, h => by
    unfold chosenM at h
    rcases List.mem_append.mp h with h | h
    · obtain ⟨d, hd, rfl⟩ := List.mem_map.mp h
      obtain ⟨h1, h2⟩ := chosenM_mem hd
      exact ⟨by rw [List.length_cons, h1], h2.cons_cons n⟩
    · obtain ⟨h1, h2⟩ := chosenM_mem h
      exact ⟨h1, h2.cons n⟩
theorem mem_chosenM : ∀ {ns c : List Str}, c.Sublist ns → c ∈ chosenM ns c.length
  | _, [], _ => by
    unfold chosenM
    exact List.mem_singleton.mpr rfl
  | n :: r, a :: c, h => by
    rw [List.length_cons]
    unfold chosenM
    cases h with
    | cons _ h => exact List.mem_append_right _ (mem_chosenM h)
    | cons_cons _ h => exact List.mem_append_left _ (List.mem_map_of_mem (mem_chosenM h))
  | [], a :: c, h => by cases h
/-- all choices -/
def choicesM (ns : List Str) : List (List Str) := (List.range ns.length).flatMap fun m => chosenM ns (m + 1)
theorem mem_choices {ns c : List Str} : c ∈ choicesM ns ↔ c.Sublist ns ∧ c ≠ [] := by
  unfold choicesM
  rw [List.mem_flatMap]
  constructor
  · rintro ⟨m, hm, hc⟩
    obtain ⟨h1, h2⟩ := chosenM_mem hc
    refine ⟨h2, fun e => ?_⟩
    rw [e] at h1
    cases h1
  · rintro ⟨h1, h2⟩
    have l := h1.length_le
    have l1 : 0 < c.length := List.length_pos_iff.mpr h2
    refine ⟨c.length - 1, List.mem_range.mpr (by omega), ?_⟩
    rw [Nat.sub_add_cancel l1]
    exact mem_chosenM h1
/-- the partings of a choice -/
def partsM (c : List Str) (k : Nat) : List (List Str × List Str) := (chosenM (c.drop 1) k).map fun more => (c.take 1 ++ more, c.filter fun n => decide (n ∉ c.take 1 ++ more))
def partingsM (c : List Str) : List (List Str × List Str) := (List.range (c.length - 1)).flatMap (partsM c)
end BX
/-! the walks: with two -/
namespace BX
open PySem PySem.Spec PyProof.Rows L2
/-- a new one of Laid -/
theorem mkLaid {K : PySem.W.Frag} {G H1 : Hp} {v : V} {t : Addr} {p : Pap} {three : List Int} {R : Addr → Hp → Prop} {E : XK} (s : Ex G H1) (dv : Dp K G v (papD p)) (ht : G t = some (.tup (three.map V.int))) (h3 : three.length = 3)
    (q : ∀ x G' H', Gr none G H1 G' H' → LaidAt K G' x (p, three) → R x H') :
    ∀ x dx, H1 x = none → H1 dx = none → dx ≠ x → sp_Laid_init K (.ref x :: ([v, .ref t] ++ [])) (upd (upd H1 dx (.own x)) x (.ins (cL K) dx [])) (fun v H2 => v = .non ∧ R x H2) E := by
  intro x dx nx ndx hne
  have tx : t ≠ x := ne_of_none (s _ _ ht) nx
  have td : t ≠ dx := ne_of_none (s _ _ ht) ndx
  refine ⟨rfl, x, dx, v, t, three, rfl, upd_same, by rw [upd_ne tx, upd_ne td]; exact s _ _ ht, fun f H2 nf e hf hx => ⟨rfl, ?_⟩⟩
  have fx : f ≠ x := fun z => by
    rw [z, upd_same] at nf
    cases nf
  have fd : f ≠ dx := fun z => by
    rw [z, upd_ne hne, upd_same] at nf
    cases nf
  have nf1 : H1 f = none := by
    rw [upd_ne fx, upd_ne fd] at nf
    exact nf
  have e1 : Ex H1 H2 := fun b o hb => e b o (ne_of_none hb nx) (by rw [upd_ne (ne_of_none hb nx), upd_ne (ne_of_none hb ndx)]; exact hb)
  have b0 : Gr none G H1 G H2 := (Gr.start s).exH e1
  have b1 := b0.keep nf1 (back s nf1) hf
  have g1 : upd G f (.lst ((srtI true three).map V.int)) x = none := by
    rw [upd_ne fx.symm]
    exact back s nx
  have b2 := b1.keep nx g1 hx
  have eG := (Ex.new (o := .lst ((srtI true three).map V.int)) (back s nf1)).trans (Ex.new (o := .ins (cL K) dx (fldL v t f)) g1)
  exact q x _ _ b2 ⟨dx, v, t, f, upd_same, dpe dv eG, eG _ _ ht, upk upd_same g1, h3⟩
/-- those that p keeps -/
def pickR {α β : Type} (p : β → Bool) : List α → List β → List α
  | r :: rs, x :: ls => if p x then r :: pickR p rs ls else pickR p rs ls
  | _, _ => []
theorem pick_pr {α β : Type} {F : α → β → Prop} (p : β → Bool) : ∀ {rs : List α} {ls : List β}, Paired F rs ls → Paired F (pickR p rs ls) (ls.filter p)
  | _, _, .nil => .nil
  | _, _, .cons (b := x) h t => by
    cases e : p x with
    | true =>
      rw [List.filter_cons_of_pos e]
      unfold pickR
      rw [if_pos e]
      exact .cons h (pick_pr p t)
    | false =>
      rw [List.filter_cons_of_neg (by rw [e]; decide)]
      unfold pickR
      rw [if_neg (by rw [e]; decide)]
      exact pick_pr p t
theorem pick_fm {β : Type} (p : β → Bool) : ∀ {rs : List Addr} {ls : List β}, rs.length = ls.length → (rs.zip ls).filterMap (fun z => if p z.2 then some (V.ref z.1) else none) = (pickR p rs ls).map V.ref
  | [], [], _ => rfl
  | r :: rs, x :: ls, h => by
    have ih := pick_fm p (rs := rs) (ls := ls) (Nat.succ.inj h)
    rw [List.zip_cons_cons]
    unfold pickR
    cases e : p x with
    | true =>
      rw [List.filterMap_cons_some (b := V.ref r) (by simp [e]), ih]
      simp
    | false =>
      rw [List.filterMap_cons_none (by simp [e]), ih]
      simp
theorem pick_len {α β : Type} (p : β → Bool) : ∀ (rs : List α) (ls : List β), (pickR p rs ls).length ≤ rs.length
  | [], _ => by simp [pickR]
  | _ :: _, [] => by simp [pickR]
  | r :: rs, x :: ls => by
    have ih := pick_len p rs ls
    unfold pickR
    split
    · simp only [List.length_cons]
      omega
    · simp only [List.length_cons]
      omega
def LdsL (K : PySem.W.Frag) (G : Hp) (l : Addr) (ls : List Ld) : Prop := ∃ rs, G l = some (.lst (rs.map V.ref)) ∧ LdsAt K G rs ls
theorem LdsL.ex {K : PySem.W.Frag} {G G' : Hp} {l : Addr} {ls : List Ld} (h : LdsL K G l ls) (e : Ex G G') : LdsL K G' l ls :=
  let ⟨rs, h1, h2⟩ := h
  ⟨rs, e _ _ h1, h2.ex e⟩
theorem zip_at {α β : Type} : ∀ {l : List α} {m : List β} {i : Nat} {a : α} {b : β}, l[i]? = some a → m[i]? = some b → (l.zip m)[i]? = some (a, b)
  | _ :: _, _ :: _, 0, _, _, h1, h2 => by
    cases h1
    cases h2
    rfl
  | _ :: l, _ :: m, i + 1, _, _, h1, h2 => zip_at (l := l) (m := m) (i := i) h1 h2
  | [], _, _, _, _, h1, _ => by simp at h1
  | _ :: _, [], _, _, _, _, h2 => by simp at h2
def sp_with_two (K : PySem.W.Frag) : Sp := spN 3 fun vs H Q _ => ∃ (G : Hp) (l a b : Addr) (ls : List Ld) (x y : Ld), vs = [.ref l, .ref a, .ref b] ∧ Ex G H ∧ LdsL K G l ls ∧ ls.length ≤ 200000 ∧ LaidAt K G a x ∧ LaidAt K G b y ∧ papOk y.1 ∧ papDep y.1 ≤ 5 ∧
  ∀ l' G' H', Gr none G H G' H' → LdsL K G' l' (withM ls x y) → Q (.ref l') H'
abbrev N_with_two : List Str := ["listed", "one", "other", "order", "axis", "three", "laid", "held"]
theorem sc_with_two : FnScope N_with_two ["listed", "one", "other"] (defScope s_with_two) := ⟨rfl, rfl, rfl, by decide +kernel, rfl, by decide +kernel, by decide +kernel⟩
theorem w_with_two {P : Program} {w : World} {K : PySem.W.Frag} {mg : Str → Option Value} {base : Heap} (T : Tp K mg) (F_Laid_holds : FnE P w K mg base 1 (He.ma K (He.ga K "Laid") "holds") ["self", "falling"] [] (sp_Laid_holds K)) (F_Laid_init : FnE P w K mg base 1 (He.ma K (He.ga K "Laid") "__init__") ["self", "paper", "three"] [] (sp_Laid_init K)) (F_all_ways : FnE P w K mg base 2 (He.ga K "all_ways") ["one", "other"] [] (sp_all_ways K)) (F_is_held : FnE P w K mg base 2 (He.ga K "is_held") ["listed", "three"] [] (sp_is_held K)) (F_turned_by : FnE P w K mg base 6 (He.ga K "turned_by") ["laying", "order"] [] (sp_turned_by K)) : FnE P w K mg base 7 (He.ga K "with_two") ["listed", "one", "other"] [] (sp_with_two K) := by
  refine fne T.f_with_two sc_with_two (fun _ _ _ _ h => h.1) (fun _ _ _ _ _ _ us hl => match us, hl with | [_, _, _], _ => rfl) fun cdv A outer s H vs Q E hr hsp => ?_
  have nd := sc_with_two.nd
  refine ⟨_, (pss_cons (ps_for PassesOwn.never rfl (pi_list (pcall F_all_ways (hr.mono (by decide)) T.g_all_ways (pa_cons (pv 1) (pa_cons (pv 2) pa_nil))) : PI _ _ _ (iList K _)) (pg_tup rfl (pgs_cons (pgn 3 nd) (pgs_cons (pgn 4 nd) (pgs_cons (pgn 5 nd) pgs_nil))) : PG _ _ (gTup K _ _)) (pss_one (ps_if (pt_not (pt_val (pcall F_is_held (hr.mono (by decide)) T.g_is_held (pa_cons (pv 0) (pa_cons (pv 5) pa_nil))))) (pss_cons (pset 6 nd (pmake T.k_Laid F_Laid_init (hr.mono (by decide)) T.g_Laid (pa_cons (pe_tup (pa_cons pe_str (pa_cons (pv 4) (pa_cons (pe_fld (pv 1) rfl : PE _ _ (tFld K _ _)) (pa_cons (pcall F_turned_by (hr.mono (by decide)) T.g_turned_by (pa_cons (pe_fld (pv 2) rfl : PE _ _ (tFld K _ _)) (pa_cons (pv 3) pa_nil))) pa_nil))))) (pa_cons (pv 5) pa_nil))))
      (pss_one (pset 0 nd (pe_op op_cat (pe_lc (own := [("held", 7)]) (g := gName 7) rfl nd (pi_list (pv 0) : PI _ _ _ (iList K _)) (blkOk_by (N := N_with_two) (sc := defScope s_with_two) (by decide +kernel)) (fun _ _ _ _ _ => (pgn 7 nd)) (fun _ _ _ _ _ => (pts_one (pt_not (pt_val (pmeth (pv 6) T.c_Laid T.m_Laid_holds F_Laid_holds (hr.mono (by decide)) (pa_cons (pe_fld (pv 7) rfl : PE _ _ (tFld K _ _)) pa_nil)))))) (fun _ _ _ _ _ => (pv 7))) (pe_lst (pa_cons (pv 6) pa_nil)))))) pss_nil)))
      (pss_one (ps_ret (pv 0)))), ?_⟩
  replace hsp := hsp.2
  obtain ⟨G, l, a, b, ls, x, y, rfl, s0, hl, hz, ha, hb, yok, ydp, q⟩ := hsp
  refine ⟨_, rfl, _, rfl, rfl, G, a, b, x, y, rfl, s0, ha, hb, fun p rs G1 H1 g1 hp hw => ⟨p, rfl, ⟨_, sq_of (g1.s _ _ hp)⟩, forE (walk_list (xs := rs.map V.ref)) (fun i σ H' => ∃ G' l' o3 o4 o5 o6 o7, σ = [some (.ref l'), some (.ref a), some (.ref b), o3, o4, o5, o6, o7] ∧ Gr none G H G' H' ∧ Ex G1 G' ∧ LdsL K G' l' (((waysM x.2 y.2).take i).foldl (stepM x y) ls))
    ⟨G1, l, none, none, none, none, none, rfl, g1, Ex.refl _, hl.ex g1.g⟩ (fun i σ H' _ pv => ?_) (fun i z σ H2 H3 N hi pv hy k => ?_) fun σ H' pv => ?_⟩⟩
  · obtain ⟨G', l', o3, o4, o5, o6, o7, _, g2, e2, _⟩ := pv
    exact sq_of (g2.s _ _ (e2 _ _ hp))
  · obtain ⟨G2, l2, o3, o4, o5, o6, o7, rfl, g2, e2, hl2⟩ := pv
    obtain ⟨rfl, hy⟩ := hy
    rw [List.getElem?_map] at hy
    obtain ⟨r, hr1, rfl⟩ := Option.map_eq_some_iff.mp hy
    obtain ⟨w1, hw1, oa, t, r1, r2, r3, r4, r5, r6⟩ := pr_at (hw.ex e2) hr1
    obtain ⟨rs2, hl3, hls2⟩ := id hl2
    have e7 : ((waysM x.2 y.2).take (i + 1)).foldl (stepM x y) ls = stepM x y (((waysM x.2 y.2).take i).foldl (stepM x y) ls) w1 := by
      rw [List.take_succ, List.foldl_append, hw1] <;> rfl
    have lz : (((waysM x.2 y.2).take i).foldl (stepM x y) ls).length ≤ 200018 := by
      have z1 := fold_len x y ((waysM x.2 y.2).take i) ls
      have z2 := List.length_take_le' i (waysM x.2 y.2)
      have z3 := waysM_len x.2 y.2
      omega
    generalize hL : ((waysM x.2 y.2).take i).foldl (stepM x y) ls = L at *
    refine ⟨r, _, rfl, st_of (g2.s _ _ r1), rfl, _, _, rfl, _, _, rfl, _, _, rfl, rfl, ?_⟩
    refine ⟨_, rfl, _, rfl, rfl, l2, t, rs2, L, w1.2.2, rfl, sq_of (g2.s _ _ hl3), hls2.ex g2.s, st_of (g2.s _ _ r5), r6, fun H4 e4 => ⟨_, rfl, ?_⟩⟩
    have g4 := g2.exH e4
    cases hh : heldM L w1.2.2 with
    | true =>
      refine iteF (by decide) (k _ _ ⟨G2, l2, _, _, _, _, _, rfl, g4, e2, ?_⟩)
      rw [e7]
      unfold stepM
      rw [hh]
      exact hl2
    | false =>
      obtain ⟨dxa, va, ta, fa, a1, a2, _⟩ := ha.ex (g1.g.trans e2)
      obtain ⟨dxb, vb, tb, fb, b1, b2, _⟩ := hb.ex (g1.g.trans e2)
      refine iteT (by decide) ⟨_, rfl, _, rfl, a, _, dxa, _, _, rfl, g4.s _ _ a1, T.c_Laid, T.n_Laid_paper, rfl, _, rfl, b, _, dxb, _, _, rfl, g4.s _ _ b1, T.c_Laid, T.n_Laid_paper, rfl, _, rfl, rfl, G2, vb, y.1, oa, w1.1, rfl, g4.s, b2, yok, r2, r3, ydp, fun v5 G5 H5 g5 d5 => ⟨szl (by simp), fun r6' nr => ⟨_, rfl, ?_⟩⟩⟩
      have g6 := g5.new (o := .tup [.str "by", .int (w1.2.1 : Nat), va, v5]) nr
      have eg : Ex G5 _ := Ex.new (o := .tup [.str "by", .int (w1.2.1 : Nat), va, v5]) (back g5.s nr)
      have dv : Dp K _ (.ref r6') (papD (.by w1.2.1 x.1 (turnP w1.1 y.1))) := .tup (st_of upd_same) (.cons (.str _) (.cons (.int _) (.cons (dpe a2 (g5.g.trans eg)) (.cons (dpe d5 eg) .nil))))
      refine mkLaid g6.s dv (eg _ _ (g5.g _ _ r5)) r6 fun x7 G7 H7 g7 hx7 => ?_
      have g8 := g6.step g7
      obtain ⟨dx7, v7, t7, f7, c1, c2, c3, c4, c5⟩ := id hx7
      have hl8 := g8.e _ _ (g4.s _ _ hl3)
      have hls8 := hls2.ex g8.g
      have lr : rs2.length = L.length := hls2.length
      refine ⟨_, rfl, l2, rfl, ⟨_, sq_of hl8⟩, fun D nD => lcE (walk_list (xs := rs2.map V.ref)) (fun j => ((rs2.zip L)[j]?).bind fun z => if !leM (srtI true w1.2.2) (srtI true z.2.2) then some (V.ref z.1) else none) nD (sz_lt (by rw [List.length_map, lr]; omega)) (fun H8 e8 => sq_of (e8 _ _ hl8)) (fun j v8 H8 H9 R S hj e8 hy8 k1 k2 => ?_) fun H8 e8 hD8 => ?_⟩
      · obtain ⟨rfl, hy8⟩ := hy8
        rw [List.getElem?_map] at hy8
        obtain ⟨rj, hrj, rfl⟩ := Option.map_eq_some_iff.mp hy8
        obtain ⟨xj, hxj, dxj, vj, tj, fj, d1, d2, d3, d4, d5'⟩ := pr_at ((hls8.ex g8.s).ex e8) hrj
        rw [zip_at hrj hxj] at k1 k2
        refine ⟨rfl, ⟨_, rfl, x7, dx7, _, rfl, e8 _ _ (g8.s _ _ c1), rfl, _, rfl, rj, _, dxj, _, _, rfl, d1, T.c_Laid, T.n_Laid_falling, rfl, rfl, x7, dx7, v7, t7, f7, fj, srtI true w1.2.2, srtI true xj.2, rfl, e8 _ _ (g8.s _ _ c1), sq_of (e8 _ _ (g8.s _ _ c4)), sq_of d4, by rw [srtI_len, r6], by rw [srtI_len, d5'], fun H10 e10 => ⟨_, rfl, ?_⟩⟩⟩
        cases hle : leM (srtI true w1.2.2) (srtI true xj.2) with
        | true => exact iteF (by decide) (k2 _ e10 (by simp [hle]))
        | false => exact iteT (by decide) ⟨_, rfl, k1 _ _ e10 (by simp [hle])⟩
      · have hD9 : H8 D = some (.lst ((pickR (fun z : Ld => !leM (srtI true w1.2.2) (srtI true z.2)) rs2 L).map V.ref)) := by
          rw [hD8, ← pick_fm _ lr]
          have z := fm_list (fun z : Addr × Ld => if !leM (srtI true w1.2.2) (srtI true z.2.2) then some (V.ref z.1) else none) (rs2.zip L)
          rw [List.length_zip, ← lr, Nat.min_self] at z
          rw [List.length_map, z]
        refine ⟨_, rfl, szl (by simp), fun l9 nl9 => ⟨D, l9, _, _, rfl, rfl, upk hD9 nl9, upd_same, ?_, fun p9 np9 => k _ _ ⟨upd G7 p9 (.lst ((pickR (fun z : Ld => !leM (srtI true w1.2.2) (srtI true z.2)) rs2 L).map V.ref ++ [.ref x7])), p9, _, _, _, _, _, rfl, ?_, ?_, ?_⟩⟩⟩
        · rw [List.length_map]
          have := pick_len (fun z : Ld => !leM (srtI true w1.2.2) (srtI true z.2)) rs2 L
          exact sz_of (by simp only [List.length_cons, List.length_nil]; omega)
        · exact (((g4.step g8).exH e8).exH (Ex.new nl9)).new np9
        · exact e2.trans (g8.g.trans (Ex.new (back (((g4.step g8).exH e8).exH (Ex.new nl9)).s np9)))
        · have n9 := back (((g4.step g8).exH e8).exH (Ex.new nl9)).s np9
          rw [e7]
          unfold stepM
          rw [hh]
          exact ⟨pickR (fun z : Ld => !leM (srtI true w1.2.2) (srtI true z.2)) rs2 L ++ [x7], by rw [upd_same, List.map_append] <;> rfl, pr_app (LdsAt.ex (pick_pr _ hls8) (Ex.new n9)) (.cons (hx7.ex (Ex.new n9)) .nil)⟩
  · obtain ⟨G', l', o3, o4, o5, o6, o7, rfl, g2, e2, hl2⟩ := pv
    have lw : (rs.map V.ref).length = (waysM x.2 y.2).length := by rw [List.length_map, hw.length]
    rw [lw, List.take_length] at hl2
    exact ⟨_, rfl, q l' G' H' g2 hl2⟩
end BX
/-! the walks: choices -/
namespace BX
open PySem PySem.Spec PyProof.Rows L2
def TupS (G : Hp) (a : Addr) (c : List Str) : Prop := G a = some (.tup (c.map V.str))
def TsAt (G : Hp) (rs : List Addr) (cs : List (List Str)) : Prop := Paired (fun a c => TupS G a c) rs cs
theorem TsAt.ex {G G' : Hp} {rs : List Addr} {cs : List (List Str)} (h : TsAt G rs cs) (e : Ex G G') : TsAt G' rs cs := Paired.mapP h fun _ _ z => e _ _ z
theorem cut_from {n : Nat} {c : List Str} : cutV (c.map V.str) (some ((n : Nat) : Int)) none = (c.drop n).map V.str := by
  unfold cutV
  rw [HT.sIx_nat, HT.sIx_none, ← List.map_drop, List.map_drop, List.take_of_length_le (by rw [List.length_drop]; omega), ← List.map_drop]
  congr 1
  rw [List.length_map]
  rcases Nat.le_total n c.length with h | h
  · rw [Nat.min_eq_left h]
  · rw [Nat.min_eq_right h, List.drop_length, List.drop_eq_nil_of_le h]
theorem cut_to {n : Nat} {c : List Str} : cutV (c.map V.str) none (some ((n : Nat) : Int)) = (c.take n).map V.str := by
  unfold cutV
  rw [HT.sIx_nat, HT.sIx_none, List.drop_zero, Nat.sub_zero, ← List.map_take, List.length_map]
  congr 1
  rcases Nat.le_total n c.length with h | h
  · rw [Nat.min_eq_left h]
  · rw [Nat.min_eq_right h, List.take_length, List.take_of_length_le h]
/-- (n,) + more -/
theorem get_D {ns : List Str} {i : Nat} {n : Str} (h : ns[i]? = some n) : ns.getD i "" = n := by
  rw [List.getD_eq_getElem?_getD, h] <;> rfl
def sr_chosen (K : PySem.W.Frag) : Nat → Sp
  | 0 => fun _ _ _ _ => False
  | dp + 1 => spN 2 fun vs H Q _ => ∃ (G : Hp) (t : Addr) (ns : List Str) (k : Nat), vs = [.ref t, .int (k : Nat)] ∧ Ex G H ∧ TupS G t ns ∧ ns.length ≤ 4 ∧ k ≤ dp ∧
    ∀ l rs G' H', Gr none G H G' H' → G' l = some (.lst (rs.map V.ref)) → TsAt G' rs (chosenM ns k) → Q (.ref l) H'
abbrev sp_chosen (K : PySem.W.Frag) : Sp := sr_chosen K 5
abbrev N_chosen : List Str := ["names", "many", "found", "at", "name", "more"]
theorem sc_chosen : FnScope N_chosen ["names", "many"] (defScope s_chosen) := ⟨rfl, rfl, rfl, by decide +kernel, rfl, by decide +kernel, by decide +kernel⟩
theorem w_chosen {P : Program} {w : World} {K : PySem.W.Frag} {mg : Str → Option Value} {base : Heap} (T : Tp K mg)  : ∀ dp, FnE P w K mg base (dp + 0) (He.ga K "chosen") ["names", "many"] [] (sr_chosen K dp)
| 0 => fneF T.f_chosen (fun vs H Q E h => h.elim) (fun _ _ _ _ _ _ us hl => match us, hl with | [_, _], _ => rfl)
| dp + 1 => by
  have F_chosen := w_chosen (P := P) (w := w) (base := base) T  dp
  refine fne T.f_chosen sc_chosen (fun _ _ _ _ h => h.1) (fun _ _ _ _ _ _ us hl => match us, hl with | [_, _], _ => rfl) fun cdv A outer s H vs Q E hr hsp => ?_
  have nd := sc_chosen.nd
  refine ⟨_, (pss_cons (ps_if (pt_cmpR op_eq (pv 1) pe_int (nomark _)) (pss_one (ps_ret (pe_lst (pa_cons (pe_tup pa_nil) pa_nil)))) pss_nil)
      (pss_cons (pset 2 nd (pe_lst pa_nil))
      (pss_cons (ps_for PassesOwn.never rfl (pi_enumT (by rfl) T.z_enumerate (pa_cons (pv 0) pa_nil) : PI _ _ _ (iEnumT K _)) (pg_tup rfl (pgs_cons (pgn 3 nd) (pgs_cons (pgn 4 nd) pgs_nil)) : PG _ _ (gTup K _ _)) (pss_one (ps_expr (pe_bm PySem.F.plainAttrs_list PySem.F.slot_list_extend PySem.F.type_list_extend mt_extend (pv 2) (pa_cons (pe_lc (own := [("more", 5)]) (g := gName 5) rfl nd (pi_list (pcall F_chosen (hr.mono (by omega)) T.g_chosen (pa_cons (pe_slice (r := rSlA K) sl_tupA (pv 0) (po_some (pe_op op_add (pv 3) pe_int)) po_none) (pa_cons (pe_op op_sub (pv 1) pe_int) pa_nil))) : PI _ _ _ (iList K _)) (blkOk_by (N := N_chosen) (sc := defScope s_chosen) (by decide +kernel)) (fun _ _ _ _ _ => (pgn 5 nd)) (fun _ _ _ _ _ => pts_nil) (fun _ _ _ _ _ => (pe_op (r := rCatA K) op_catA (pe_tup (pa_cons (pv 4) pa_nil)) (pv 5)))) pa_nil) : PE _ _ (tBM K _ _ _ _)))))
      (pss_one (ps_ret (pv 2)))))), ?_⟩
  replace hsp := hsp.2
  obtain ⟨G, t, ns, k, rfl, s0, ht, hn, hk, q⟩ := hsp
  cases k with
  | zero =>
    refine ⟨_, rfl, rfl, _, rfl, iteT (decide_eq_true rfl) ⟨szl (by simp), fun t0 nt0 => ⟨szl (by simp), fun l nl => ?_⟩⟩⟩
    have g1 := (Gr.start (m := none) s0).new (o := .tup []) nt0
    have e : chosenM ns 0 = [[]] := by
      unfold chosenM
      rfl
    refine q l [t0] _ _ (g1.new nl) upd_same ?_
    rw [e]
    exact .cons (upk upd_same (back g1.s nl)) .nil
  | succ k =>
    refine ⟨_, rfl, rfl, _, rfl, iteF (by simp; omega) ⟨szl (by simp), fun l0 nl0 => ⟨_, rfl, t, _, rfl, st_of (upk (s0 _ _ ht) nl0), forE (walk_enumT (xs := ns.map V.str)) (fun i σ H' => ∃ G' o3 o4 o5 rs, σ = [some (.ref t), some (.int ((k + 1 : Nat) : Int)), some (.ref l0), o3, o4, o5] ∧ Gr none G H G' H' ∧ G' l0 = none ∧ H' l0 = some (.lst (rs.map V.ref)) ∧ TsAt G' rs (chosenU ns k i))
      ⟨G, none, none, none, [], rfl, (Gr.start s0).mut nl0 (back s0 nl0), back s0 nl0, upd_same, .nil⟩ (fun i σ H' _ pv => ?_) (fun i z σ H2 H3 N hi pv hy k1 => ?_) fun σ H' pv => ?_⟩⟩⟩
    · obtain ⟨G', _, _, _, _, _, g, _⟩ := pv
      exact st_of (g.s _ _ (g.g _ _ ht))
    · obtain ⟨G1, o3, o4, o5, rs, rfl, g1, gl1, hl1, hw1⟩ := pv
      obtain ⟨T0, y1, y2, rfl, nT, rfl, h1, h2⟩ := hy
      cases h1
      replace h2 : (ns.map V.str)[i]? = some y2 := h2
      rw [List.getElem?_map] at h2
      obtain ⟨n, hn1, rfl⟩ := Option.map_eq_some_iff.mp h2
      have hi2 : i < ns.length := (List.getElem?_eq_some_iff.mp hn1).1
      have g2 := g1.new (o := .tup [.int (i : Nat), .str n]) nT
      have gl2 : upd G1 T0 (.tup [.int (i : Nat), .str n]) l0 = none := upn gl1 hl1 nT
      have hl2 : upd H2 T0 (.tup [.int (i : Nat), .str n]) l0 = some (.lst (rs.map V.ref)) := upk hl1 nT
      generalize hHa : upd H2 T0 (.tup [.int (i : Nat), .str n]) = Ha at *
      generalize hGa : upd G1 T0 (.tup [.int (i : Nat), .str n]) = Ga at *
      have hT : Ha T0 = some (.tup [.int (i : Nat), .str n]) := by
        rw [← hHa]
        exact upd_same
      have eGa : Ex G1 Ga := by
        rw [← hGa]
        exact Ex.new (back g1.s nT)
      obtain ⟨dq, rfl⟩ : ∃ dq, dp = dq + 1 := ⟨dp - 1, by omega⟩
      refine ⟨T0, _, rfl, st_of hT, rfl, _, _, rfl, _, _, rfl, rfl, ?_⟩
      refine ⟨_, rfl, .inl ⟨rfl, _, sq_of hl2⟩, _, rfl, ⟨_, rfl, _, _, rfl, rfl, _, rfl, ?_⟩⟩
      have ci : (((i : Nat) : Int) + 1) = ((i + 1 : Nat) : Int) := by omega
      have ck : (((k + 1 : Nat) : Int) - 1) = ((k : Nat) : Int) := by omega
      rw [ci]
      refine ⟨t, _, rfl, st_of (g2.s _ _ (g2.g _ _ ht)), fun z => ?_, fun _ p np => ?_⟩
      · exfalso
        have z1 := z.1
        rw [HT.sIx_nat, List.length_map] at z1
        omega
      rw [cut_from]
      have g3 := g2.new (o := .tup ((ns.drop (i + 1)).map V.str)) np
      have gl3 : upd Ga p (.tup ((ns.drop (i + 1)).map V.str)) l0 = none := upn gl2 hl2 np
      refine ⟨_, rfl, _, _, rfl, rfl, rfl, upd Ga p (.tup ((ns.drop (i + 1)).map V.str)), p, ns.drop (i + 1), k, by rw [← ck] <;> rfl, g3.s, upd_same, by rw [List.length_drop]; omega, by omega, fun lc rsc G4 H4 g4 hlc hrc => ?_⟩
      have g5 := g3.step g4
      have gl5 := g4.out gl3 (upk hl2 np)
      have hl5 := g4.e _ _ (upk hl2 np)
      have eG4 : Ex G1 G4 := (eGa.trans (Ex.new (back g2.s np))).trans g4.g
      refine ⟨lc, rfl, ⟨_, sq_of (g4.s _ _ hlc)⟩, fun D nD => lcP (m := none) (walk_list (xs := rsc.map V.ref)) (Gr.start g4.s) nD (fun _ z => by cases z) (sz_lt (by rw [List.length_map, hrc.length]; have := chosenM_len4 (ns := ns.drop (i + 1)) (by rw [List.length_drop]; omega) k; omega))
        (fun j G5 H5 acc => ∃ r5, acc = r5.map V.ref ∧ TsAt G5 r5 (((chosenM (ns.drop (i + 1)) k).take j).map (n :: ·))) (fun j G5 H5 acc _ g _ _ => sq_of (g.s _ _ (g.g _ _ hlc))) ⟨[], rfl, .nil⟩ (fun j v G5 H5 acc H6 N1 S1 hj g6 e6 gD hD hR hy6 k2 k3 => ?_) fun G5 H5 acc g6 e6 gD hD hR => ?_⟩
      · obtain ⟨r5, rfl, hr5⟩ := hR
        obtain ⟨rfl, hy6⟩ := hy6
        rw [List.getElem?_map] at hy6
        obtain ⟨rj, hrj, rfl⟩ := Option.map_eq_some_iff.mp hy6
        obtain ⟨cj, hcj, tj⟩ := pr_at (hrc.ex g6.g) hrj
        have tk : ((chosenM (ns.drop (i + 1)) k).take (j + 1)).map (n :: ·) = ((chosenM (ns.drop (i + 1)) k).take j).map (n :: ·) ++ [n :: cj] := by
          rw [List.take_succ, List.map_append, hcj] <;> rfl
        have lj : cj.length ≤ 4 := by
          have h1 := (chosenM_mem (List.mem_of_getElem? hcj)).2.length_le
          rw [List.length_drop] at h1
          omega
        refine ⟨rfl, yes (iteT rfl ⟨_, rfl, szl (by simp), fun a na => ⟨_, rfl, a, rj, _, _, rfl, rfl, st_of upd_same, st_of (upk (g6.s _ _ tj) na), ?_, fun z => (by cases z), fun _ z => ?_, fun _ _ p2 np2 => ?_⟩⟩)⟩
        · exact sz_of (by rw [List.length_map]; simp only [List.length_cons, List.length_nil]; omega)
        · have ga := g6.new (o := .tup [.str n]) na
          refine k2 _ _ _ ga (e6.trans (Ex.new (back g6.s na))) (upn gD hD na) (upk hD na) ⟨r5 ++ [a], by rw [List.map_append] <;> rfl, ?_⟩
          rw [tk]
          refine pr_app (hr5.ex (Ex.new (back g6.s na))) (.cons ?_ .nil)
          have e0 : cj = [] := by
            cases cj with
            | nil => rfl
            | cons _ _ => cases z
          rw [e0]
          exact upd_same
        · have ga := g6.new (o := .tup [.str n]) na
          have gb := ga.new (o := .tup ([.str n] ++ cj.map V.str)) np2
          refine k2 _ _ _ gb ((e6.trans (Ex.new (back g6.s na))).trans (Ex.new (back ga.s np2))) (upn (upn gD hD na) (upk hD na) np2) (upk (upk hD na) np2) ⟨r5 ++ [p2], by rw [List.map_append] <;> rfl, ?_⟩
          rw [tk]
          exact pr_app (hr5.ex ((Ex.new (back g6.s na)).trans (Ex.new (back ga.s np2)))) (.cons upd_same .nil)
      · obtain ⟨r5, rfl, hr5⟩ := hR
        rw [List.length_map, hrc.length, List.take_length] at hr5
        have hl6 := g6.e _ _ hl5
        have gl6 := g6.out gl5 hl5
        have lt := chosenU_le ns k (i + 1) hi2
        have l4 := chosenM_len4 hn (k + 1)
        rw [chosenU_succ, List.length_append, get_D hn1] at lt
        have w1 : rs.length = (chosenU ns k i).length := hw1.length
        have w2 : r5.length = ((chosenM (ns.drop (i + 1)) k).map (n :: ·)).length := hr5.length
        refine ⟨l0, D, _, _, rfl, rfl, hl6, hD, by rw [List.length_map, List.length_map]; exact sz_of (by omega), k1 _ _ ⟨G5, _, _, _, rs ++ r5, rfl, (g5.step g6).mut nl0 gl6, gl6, by rw [upd_same, List.map_append], ?_⟩⟩
        rw [chosenU_succ, get_D hn1]
        exact pr_app (hw1.ex (eG4.trans g6.g)) hr5
    · obtain ⟨G1, o3, o4, o5, rs, rfl, g1, gl1, hl1, hw1⟩ := pv
      rw [List.length_map, chosenU_all] at hw1
      exact ⟨_, rfl, q l0 rs _ _ (g1.keep nl0 gl1 hl1) upd_same (hw1.ex (Ex.new gl1))⟩
end BX
/-! the walks: all choices, partings -/
namespace BX
open PySem PySem.Spec PyProof.Rows L2
theorem choicesU_succ (ns : List Str) (i : Nat) : (List.range (i + 1)).flatMap (fun m => chosenM ns (m + 1)) = (List.range i).flatMap (fun m => chosenM ns (m + 1)) ++ chosenM ns (i + 1) := by
  rw [List.range_succ, List.flatMap_append]
  simp
theorem flat_len {α : Type} (f : Nat → List α) (B : Nat) (h : ∀ m, (f m).length ≤ B) : ∀ i, ((List.range i).flatMap f).length ≤ i * B
  | 0 => by simp
  | i + 1 => by
    have ih := flat_len f B h i
    have := h i
    rw [List.range_succ, List.flatMap_append, List.length_append, Nat.succ_mul]
    simp only [List.flatMap_cons, List.flatMap_nil, List.append_nil]
    omega
def sp_choices_of (K : PySem.W.Frag) : Sp := spN 1 fun vs H Q _ => ∃ (G : Hp) (t : Addr) (ns : List Str), vs = [.ref t] ∧ Ex G H ∧ SeqAt G t (ns.map V.str) ∧ ns.length ≤ 4 ∧
  ∀ l rs G' H', Gr none G H G' H' → G' l = some (.lst (rs.map V.ref)) → TsAt G' rs (choicesM ns) → Q (.ref l) H'
abbrev N_choices_of : List Str := ["names", "found", "many"]
theorem sc_choices_of : FnScope N_choices_of ["names"] (defScope s_choices_of) := ⟨rfl, rfl, rfl, by decide +kernel, rfl, by decide +kernel, by decide +kernel⟩
theorem w_choices_of {P : Program} {w : World} {K : PySem.W.Frag} {mg : Str → Option Value} {base : Heap} (T : Tp K mg) (F_chosen : FnE P w K mg base 5 (He.ga K "chosen") ["names", "many"] [] (sp_chosen K)) : FnE P w K mg base 6 (He.ga K "choices_of") ["names"] [] (sp_choices_of K) := by
  refine fne T.f_choices_of sc_choices_of (fun _ _ _ _ h => h.1) (fun _ _ _ _ _ _ us hl => match us, hl with | [_], _ => rfl) fun cdv A outer s H vs Q E hr hsp => ?_
  have nd := sc_choices_of.nd
  refine ⟨_, (pss_cons (pset 1 nd (pe_lst pa_nil))
      (pss_cons (ps_for PassesOwn.never rfl (pi_range2 (by rfl) T.z_range (pa_cons pe_int (pa_cons (pe_op op_add (pe_callB (r := rLenQ K) cLenQ (by rfl) T.z_len (by decide +kernel) (pa_cons (pv 0) pa_nil)) pe_int) pa_nil))) (pgn 2 nd) (pss_one (ps_expr (pe_bm PySem.F.plainAttrs_list PySem.F.slot_list_extend PySem.F.type_list_extend mt_extend (pv 1) (pa_cons (pcall F_chosen (hr.mono (by decide)) T.g_chosen (pa_cons (pe_callTy (r := rTupQ K) cTupQ (by rfl) T.z_tuple (by decide +kernel) (pa_cons (pv 0) pa_nil)) (pa_cons (pv 2) pa_nil))) pa_nil) : PE _ _ (tBM K _ _ _ _)))))
      (pss_one (ps_ret (pv 1))))), ?_⟩
  replace hsp := hsp.2
  obtain ⟨G, t, ns, rfl, s0, ht, hn, q⟩ := hsp
  refine ⟨szl (by simp), fun l0 nl0 => ?_⟩
  have ht0 := (ht.ex s0).ex (Ex.new (o := .lst []) nl0)
  refine ⟨_, rfl, t, _, rfl, ht0.q, _, _, rfl, rfl, 1, ((ns.length : Nat) : Int) + 1, by rw [List.length_map] <;> rfl, ⟨by decide, by decide, by omega, by omega⟩, ?_⟩
  have en : (((ns.length : Nat) : Int) + 1 - 1).toNat = ns.length := by omega
  rw [en]
  refine forE (walk_range (lo := 1) (n := ns.length)) (fun i σ H' => ∃ G' o2 rs, σ = [some (.ref t), some (.ref l0), o2] ∧ Gr none G H G' H' ∧ G' l0 = none ∧ H' l0 = some (.lst (rs.map V.ref)) ∧ TsAt G' rs ((List.range i).flatMap fun m => chosenM ns (m + 1)))
    ⟨G, none, [], rfl, (Gr.start s0).mut nl0 (back s0 nl0), back s0 nl0, upd_same, .nil⟩ (fun _ _ _ _ _ => trivial) (fun i z σ H2 H3 N hi pv hy k1 => ?_) fun σ H' pv => ?_
  · obtain ⟨G1, o2, rs, rfl, g1, gl1, hl1, hw1⟩ := pv
    obtain ⟨rfl, rfl⟩ := hy
    have ci : (1 + ((i : Nat) : Int)) = ((i + 1 : Nat) : Int) := by omega
    have ht1 := ht.ex g1.g
    refine ⟨_, rfl, .inl ⟨rfl, _, sq_of hl1⟩, _, rfl, t, ns.map V.str, rfl, ?_⟩
    have fin : ∀ (b : Addr) (G2 H4 : Hp), Gr none G H G2 H4 → Ex G1 G2 → G2 l0 = none → H4 l0 = some (.lst (rs.map V.ref)) → TupS G2 b ns → spN 2 (fun vs H Q E => ∃ (G : Hp) (t : Addr) (ns : List Str) (k : Nat), vs = [.ref t, .int (k : Nat)] ∧ Ex G H ∧ TupS G t ns ∧ ns.length ≤ 4 ∧ k ≤ 4 ∧
        ∀ l rs G' H', Gr none G H G' H' → G' l = some (.lst (rs.map V.ref)) → TsAt G' rs (chosenM ns k) → Q (.ref l) H') [.ref b, .int (1 + ((i : Nat) : Int))] H4 (fun x H1 => rExtend (.ref l0) [x] H1 fun _ H' => N [some (.ref t), some (.ref l0), some (.int (1 + ((i : Nat) : Int)))] H') E0 := by
      intro b G2 H4 g2 e2 gl2 hl2 hb
      refine ⟨rfl, G2, b, ns, i + 1, by rw [ci], g2.s, hb, hn, by omega, fun l rs2 G3 H5 g3 hl3 hr3 => ?_⟩
      have hl5 := g3.e _ _ hl2
      have gl5 := g3.out gl2 hl2
      have w1 : rs.length = _ := hw1.length
      have w2 : rs2.length = _ := hr3.length
      have b1 := flat_len (fun m => chosenM ns (m + 1)) 16 (fun m => chosenM_len4 hn (m + 1)) i
      have b2 := chosenM_len4 hn (i + 1)
      refine ⟨l0, l, _, _, rfl, rfl, hl5, g3.s _ _ hl3, by rw [List.length_map, List.length_map]; exact sz_of (by omega), k1 _ _ ⟨G3, _, rs ++ rs2, rfl, (g2.step g3).mut nl0 gl5, gl5, by rw [upd_same, List.map_append], ?_⟩⟩
      rw [choicesU_succ]
      exact pr_app (hw1.ex (e2.trans g3.g)) hr3
    rcases ht1 with h | h
    · refine .inl ⟨sq_of (g1.s _ _ h), fun p np => ?_⟩
      have g2 := g1.new (o := .tup (ns.map V.str)) np
      exact ⟨_, rfl, fin p _ _ g2 (Ex.new (back g1.s np)) (upn gl1 hl1 np) (upk hl1 np) upd_same⟩
    · exact .inr ⟨st_of (g1.s _ _ h), ⟨_, rfl, fin t _ _ g1 (Ex.refl _) gl1 hl1 h⟩⟩
  · obtain ⟨G1, o2, rs, rfl, g1, gl1, hl1, hw1⟩ := pv
    exact ⟨_, rfl, q l0 rs _ _ (g1.keep nl0 gl1 hl1) upd_same (hw1.ex (Ex.new gl1))⟩
def PartAt (G : Hp) (r : Addr) (p : List Str × List Str) : Prop := ∃ a b, G r = some (.tup [.ref a, .ref b]) ∧ TupS G a p.1 ∧ TupS G b p.2
theorem PartAt.ex {G G' : Hp} {r : Addr} {p : List Str × List Str} (h : PartAt G r p) (e : Ex G G') : PartAt G' r p :=
  let ⟨a, b, h1, h2, h3⟩ := h
  ⟨a, b, e _ _ h1, e _ _ h2, e _ _ h3⟩
def PtsAt (G : Hp) (rs : List Addr) (ps : List (List Str × List Str)) : Prop := Paired (fun a c => PartAt G a c) rs ps
theorem PtsAt.ex {G G' : Hp} {rs : List Addr} {ps : List (List Str × List Str)} (h : PtsAt G rs ps) (e : Ex G G') : PtsAt G' rs ps := Paired.mapP h fun _ _ z => z.ex e
theorem partsM_len {c : List Str} (h : c.length ≤ 4) (k : Nat) : (partsM c k).length ≤ 16 := by
  unfold partsM
  rw [List.length_map]
  exact chosenM_len4 (by rw [List.length_drop]; omega) k
def sp_partings_of (K : PySem.W.Frag) : Sp := spN 1 fun vs H Q _ => ∃ (G : Hp) (t : Addr) (c : List Str), vs = [.ref t] ∧ Ex G H ∧ TupS G t c ∧ 1 ≤ c.length ∧ c.length ≤ 4 ∧
  ∀ l rs G' H', Gr none G H G' H' → G' l = some (.lst (rs.map V.ref)) → PtsAt G' rs (partingsM c) → Q (.ref l) H'
abbrev N_partings_of : List Str := ["choice", "found", "many", "more", "part", "name"]
theorem sc_partings_of : FnScope N_partings_of ["choice"] (defScope s_partings_of) := ⟨rfl, rfl, rfl, by decide +kernel, rfl, by decide +kernel, by decide +kernel⟩
theorem w_partings_of {P : Program} {w : World} {K : PySem.W.Frag} {mg : Str → Option Value} {base : Heap} (T : Tp K mg) (F_chosen : FnE P w K mg base 5 (He.ga K "chosen") ["names", "many"] [] (sp_chosen K)) : FnE P w K mg base 6 (He.ga K "partings_of") ["choice"] [] (sp_partings_of K) := by
  refine fne T.f_partings_of sc_partings_of (fun _ _ _ _ h => h.1) (fun _ _ _ _ _ _ us hl => match us, hl with | [_], _ => rfl) fun cdv A outer s H vs Q E hr hsp => ?_
  have nd := sc_partings_of.nd
  refine ⟨_, (pss_cons (pset 1 nd (pe_lst pa_nil))
      (pss_cons (ps_for PassesOwn.never rfl (pi_range1 (by rfl) T.z_range (pa_cons (pe_op op_sub (pe_callB (r := rLenQ K) cLenQ (by rfl) T.z_len (by decide +kernel) (pa_cons (pv 0) pa_nil)) pe_int) pa_nil)) (pgn 2 nd) (pss_one (ps_for PassesOwn.never rfl (pi_list (pcall F_chosen (hr.mono (by decide)) T.g_chosen (pa_cons (pe_slice (r := rSlA K) sl_tupA (pv 0) (po_some pe_int) po_none) (pa_cons (pv 2) pa_nil))) : PI _ _ _ (iList K _)) (pgn 3 nd) (pss_cons (pset 4 nd (pe_op (r := rCatA K) op_catA (pe_slice (r := rSlA K) sl_tupA (pv 0) po_none (po_some pe_int)) (pv 3)))
      (pss_one (ps_expr (pe_bm PySem.F.plainAttrs_list PySem.F.slot_list_append PySem.F.type_list_append mt_append (pv 1) (pa_cons (pe_tup (pa_cons (pv 4) (pa_cons (pe_callTy (r := rTupQ K) cTupQ (by rfl) T.z_tuple (by decide +kernel) (pa_cons (pe_lc (own := [("name", 5)]) (g := gName 5) rfl nd (pi_tup (pv 0) : PI _ _ _ (iTup K _)) (blkOk_by (N := N_partings_of) (sc := defScope s_partings_of) (by decide +kernel)) (fun _ _ _ _ _ => (pgn 5 nd)) (fun _ _ _ _ _ => (pts_one (pt_cmpR (r := rIn K true) op_notIn_seq (pv 5) (pv 4) (by rfl)))) (fun _ _ _ _ _ => (pv 5))) pa_nil)) pa_nil))) pa_nil) : PE _ _ (tBM K _ _ _ _))))))))
      (pss_one (ps_ret (pv 1))))), ?_⟩
  replace hsp := hsp.2
  obtain ⟨G, t, c, rfl, s0, ht, h1, h4, q⟩ := hsp
  refine ⟨szl (by simp), fun l0 nl0 => ?_⟩
  have ht0 := upk (x := .lst []) (s0 _ _ ht) nl0
  refine ⟨_, rfl, t, _, rfl, .inr (st_of ht0), _, _, rfl, rfl, ((c.length - 1 : Nat) : Int), by rw [List.length_map]; exact congrArg (fun z => [V.int z]) (by omega), by omega, by omega, ?_⟩
  rw [Int.toNat_natCast]
  refine forE (walk_rg (n := c.length - 1)) (fun i σ H' => ∃ G' o2 o3 o4 o5 rs, σ = [some (.ref t), some (.ref l0), o2, o3, o4, o5] ∧ Gr none G H G' H' ∧ G' l0 = none ∧ H' l0 = some (.lst (rs.map V.ref)) ∧ PtsAt G' rs ((List.range i).flatMap (partsM c)))
    ⟨G, none, none, none, none, [], rfl, (Gr.start s0).mut nl0 (back s0 nl0), back s0 nl0, upd_same, .nil⟩ (fun _ _ _ _ _ => trivial) (fun i z σ H2 H3 N hi pv hy k1 => ?_) fun σ H' pv => ?_
  · obtain ⟨G1, o2, o3, o4, o5, rs, rfl, g1, gl1, hl1, hw1⟩ := pv
    obtain ⟨rfl, rfl⟩ := hy
    have c1 : ((1 : Int)) = ((1 : Nat) : Int) := rfl
    refine ⟨_, rfl, _, rfl, t, _, rfl, st_of (g1.s _ _ (g1.g _ _ ht)), fun z => ?_, fun _ p np => ?_⟩
    · exfalso
      have z1 := z.1
      rw [c1, HT.sIx_nat, List.length_map] at z1
      omega
    rw [c1, cut_from]
    have g2 := g1.new (o := .tup ((c.drop 1).map V.str)) np
    have gl2 := upn (x := .tup ((c.drop 1).map V.str)) gl1 hl1 np
    have hl2 := upk (x := .tup ((c.drop 1).map V.str)) hl1 np
    refine ⟨_, rfl, rfl, _, p, c.drop 1, i, rfl, g2.s, upd_same, by rw [List.length_drop]; omega, (show i ≤ 4 by omega), fun lc rsc G3 H4 g3 hlc hrc => ?_⟩
    have g4 := g2.step g3
    have gl4 := g3.out gl2 hl2
    have hl4 := g3.e _ _ hl2
    have e3 : Ex G1 G3 := (Ex.new (back g1.s np)).trans g3.g
    refine ⟨lc, rfl, ⟨_, sq_of (g3.s _ _ hlc)⟩, forE (walk_list (xs := rsc.map V.ref)) (fun j σ H' => ∃ G' o3 o4 o5 rs2, σ = [some (.ref t), some (.ref l0), some (.int (i : Nat)), o3, o4, o5] ∧ Gr none G H G' H' ∧ Ex G3 G' ∧ G' l0 = none ∧ H' l0 = some (.lst ((rs ++ rs2).map V.ref)) ∧ PtsAt G' rs2 ((partsM c i).take j))
      ⟨G3, _, _, _, [], rfl, g4, Ex.refl _, gl4, by rw [List.append_nil]; exact hl4, .nil⟩ (fun j σ H' _ pv => ?_) (fun j z σ H5 H6 N2 hj pv hy k2 => ?_) fun σ H' pv => ?_⟩
    · obtain ⟨G', _, _, _, _, _, g, e, _⟩ := pv
      exact sq_of (g.s _ _ (e _ _ hlc))
    · obtain ⟨G5, p3, p4, p5, rs2, rfl, g5, e5, gl5, hl5, hw2⟩ := pv
      obtain ⟨rfl, hy⟩ := hy
      rw [List.getElem?_map] at hy
      obtain ⟨rj, hrj, rfl⟩ := Option.map_eq_some_iff.mp hy
      obtain ⟨more, hmore, tj⟩ := pr_at (hrc.ex e5) hrj
      have t5 := g5.s _ _ (g5.g _ _ ht)
      have lm := (chosenM_mem (List.mem_of_getElem? hmore)).2.length_le
      rw [List.length_drop] at lm
      have tk : (partsM c i).take (j + 1) = (partsM c i).take j ++ [(c.take 1 ++ more, c.filter fun n => decide (n ∉ c.take 1 ++ more))] := by
        rw [List.take_succ]
        congr 1
        unfold partsM
        rw [List.getElem?_map, hmore] <;> rfl
      -- part stands at pa; the rest follows
      have fin : ∀ (pa : Addr) (G6 H7 : Hp), Gr none G H G6 H7 → Ex G5 G6 → G6 l0 = none → H7 l0 = some (.lst ((rs ++ rs2).map V.ref)) → TupS G6 pa (c.take 1 ++ more) →
          (tDrop (tBM K "list" rAppend (tVar 1) (tCons (tTup (tCons (tVar 4) (tCons (tCB (rTupQ K) (tCons (tLc (iTup K (tVar 0)) (gName 5) (tTest (tOp (rIn K true) (tVar 5) (tVar 4))) (tVar 5) [5]) tNil)) tNil))) tNil))) { nx := N2, rt := Q, bk := N, ct := N2 } [some (.ref t), some (.ref l0), some (.int (i : Nat)), some (.ref rj), some (.ref pa), p5] H7 := by
        intro pa G6 H7 g6 e6 gl6 hl6 hpa
        have t7 : H7 t = some (.tup (c.map V.str)) := g6.s _ _ (g6.g _ _ ht)
        refine ⟨_, rfl, .inl ⟨rfl, _, sq_of hl6⟩, _, rfl, _, rfl, t, rfl, ⟨_, st_of t7⟩, fun D nD => lcE (walk_tup (xs := c.map V.str)) (fun m => (c[m]?).bind fun n => if n ∉ c.take 1 ++ more then some (V.str n) else none) nD (sz_lt (by rw [List.length_map]; omega)) (fun H8 e8 => st_of (e8 _ _ t7)) (fun m v H8 H9 R S hm e8 hy8 kk1 kk2 => ?_) fun H8 e8 hD8 => ?_⟩
        · obtain ⟨rfl, hy8⟩ := hy8
          rw [List.getElem?_map] at hy8
          obtain ⟨n, hn, rfl⟩ := Option.map_eq_some_iff.mp hy8
          rw [hn] at kk1 kk2
          refine ⟨rfl, _, rfl, _, rfl, pa, _, rfl, .inr (st_of (e8 _ _ (g6.s _ _ hpa))), rfl, flat_strs _, _, rfl, ?_⟩
          by_cases e : n ∈ c.take 1 ++ more
          · refine iteF ?_ (kk2 _ (Ex.refl _) (by simp only [Option.bind_some]; exact if_neg (fun z => z e)))
            show ¬ (!inV (.str n) ((c.take 1 ++ more).map V.str)) = true
            rw [inV_str, decide_eq_true e]
            decide
          · refine iteT ?_ ⟨_, rfl, kk1 _ _ (Ex.refl _) (by simp only [Option.bind_some]; exact if_pos e)⟩
            show (!inV (.str n) ((c.take 1 ++ more).map V.str)) = true
            rw [inV_str, decide_eq_false e]
            rfl
        · have hD9 : H8 D = some (.lst ((c.filter fun n => decide (n ∉ c.take 1 ++ more)).map V.str)) := by
            rw [hD8, List.length_map, fm_list (fun n => if n ∉ c.take 1 ++ more then some (V.str n) else none) c, fm_if]
          have g8 := g6.exH e8
          refine ⟨D, _, rfl, .inl ⟨sq_of hD9, fun b nb => ⟨szl (by simp), fun r nr => ?_⟩⟩⟩
          have gb := g8.new (o := .tup ((c.filter fun n => decide (n ∉ c.take 1 ++ more)).map V.str)) nb
          have gr := gb.new (o := .tup [.ref pa, .ref b]) nr
          have hl8 := upk (x := .tup ((c.filter fun n => decide (n ∉ c.take 1 ++ more)).map V.str)) (e8 _ _ hl6) nb
          have ee := (Ex.new (o := .tup ((c.filter fun n => decide (n ∉ c.take 1 ++ more)).map V.str)) (back g8.s nb)).trans (Ex.new (o := .tup [.ref pa, .ref b]) (back gb.s nr))
          have glr := upn (x := .tup [.ref pa, .ref b]) (upn (x := .tup ((c.filter fun n => decide (n ∉ c.take 1 ++ more)).map V.str)) gl6 (e8 _ _ hl6) nb) hl8 nr
          have w1 : rs.length = _ := hw1.length
          have w2 : rs2.length = _ := hw2.length
          have b1 := flat_len (partsM c) 16 (partsM_len h4) i
          have b2 := partsM_len h4 i
          have b3 := List.length_take_le j (partsM c i)
          refine ⟨l0, _, _, rfl, rfl, upk hl8 nr, ?_, k2 _ _ ⟨_, _, _, _, rs2 ++ [r], rfl, gr.mut nl0 glr, (e5.trans e6).trans ee, glr, ?_, ?_⟩⟩
          · rw [List.length_map, List.length_append]
            have b4 := List.length_take_le' j (partsM c i)
            exact sz_lt (by omega)
          · rw [upd_same, ← List.append_assoc, List.map_append (l₁ := rs ++ rs2)] <;> rfl
          · rw [tk]
            exact pr_app (hw2.ex (e6.trans ee)) (.cons ⟨pa, b, upd_same, ee _ _ hpa, upk upd_same (back gb.s nr)⟩ .nil)
      refine ⟨_, rfl, _, rfl, t, _, rfl, st_of t5, fun z => ?_, fun _ a na => ?_⟩
      · exfalso
        have z1 := z.2
        rw [HT.sIx_nat, List.length_map] at z1
        omega
      rw [cut_to]
      have ga := g5.new (o := .tup ((c.take 1).map V.str)) na
      have gla := upn (x := .tup ((c.take 1).map V.str)) gl5 hl5 na
      have hla := upk (x := .tup ((c.take 1).map V.str)) hl5 na
      refine ⟨_, rfl, a, rj, _, _, rfl, rfl, st_of upd_same, st_of (upk (g5.s _ _ tj) na), ?_, fun z => ?_, fun _ z => ?_, fun _ _ p2 np2 => ?_⟩
      · rw [List.length_map, List.length_map, List.length_take]
        exact sz_of (by omega)
      · exfalso
        have l1 : (c.take 1).length = 0 := by
          have := congrArg List.length z
          rw [List.length_map] at this
          exact this
        rw [List.length_take] at l1
        omega
      · have e0 : more = [] := by
          cases more with
          | nil => rfl
          | cons _ _ => cases z
        refine fin a _ _ ga (Ex.new (back g5.s na)) gla hla ?_
        rw [e0, List.append_nil]
        exact upd_same
      · have gb := ga.new (o := .tup ((c.take 1).map V.str ++ more.map V.str)) np2
        refine fin p2 _ _ gb ((Ex.new (back g5.s na)).trans (Ex.new (back ga.s np2))) (upn gla hla np2) (upk hla np2) ?_
        show upd _ p2 _ p2 = _
        rw [upd_same, List.map_append]
    · obtain ⟨G5, p3, p4, p5, rs2, rfl, g5, e5, gl5, hl5, hw2⟩ := pv
      have lp : (rsc.map V.ref).length = (partsM c i).length := by
        unfold partsM
        rw [List.length_map, List.length_map, hrc.length]
      rw [lp, List.take_length] at hw2
      refine k1 _ _ ⟨G5, _, _, _, _, rs ++ rs2, rfl, g5, gl5, hl5, ?_⟩
      rw [List.range_succ, List.flatMap_append]
      simp only [List.flatMap_cons, List.flatMap_nil, List.append_nil]
      exact pr_app (hw1.ex (e3.trans e5)) hw2
  · obtain ⟨G1, o2, o3, o4, o5, rs, rfl, g1, gl1, hl1, hw1⟩ := pv
    exact ⟨_, rfl, q l0 rs _ _ (g1.keep nl0 gl1 hl1) upd_same (hw1.ex (Ex.new gl1))⟩
end BX
/-! the mathematics: the lists -/
namespace BX
open PySem
abbrev Tb : Type := List (List Str × List Ld)
def getM (tbl : Tb) (c : List Str) : List Ld := ((tbl.find? fun p => decide (p.1 = c)).map (·.2)).getD []
def innerM (x : Ld) (ys acc : List Ld) : List Ld := ys.foldl (fun acc y => withM acc x y) acc
def pairM (xs ys acc : List Ld) : List Ld := xs.foldl (fun acc x => innerM x ys acc) acc
def firstM (sides : Str → List Int) : List Str → List Ld
  | [n] => [(.one n [0, 1, 2], sides n)]
  | _ => []
def foldP (tbl : Tb) (ps : List (List Str × List Str)) (acc : List Ld) : List Ld := ps.foldl (fun acc pr => pairM (getM tbl pr.1) (getM tbl pr.2) acc) acc
def listM (sides : Str → List Int) (tbl : Tb) (c : List Str) : List Ld := foldP tbl (partingsM c) (firstM sides c)
def listsU (sides : Str → List Int) (cs : List (List Str)) : Tb := cs.foldl (fun tbl c => tbl ++ [(c, listM sides tbl c)]) []
def listsM (sides : Str → List Int) (ns : List Str) : Tb := listsU sides (choicesM ns)
theorem listsU_snoc (sides : Str → List Int) (cs : List (List Str)) (c : List Str) : listsU sides (cs ++ [c]) = listsU sides cs ++ [(c, listM sides (listsU sides cs) c)] := by
  unfold listsU
  rw [List.foldl_append] <;> rfl
theorem listsU_keys (sides : Str → List Int) (cs : List (List Str)) : (listsU sides cs).map (·.1) = cs := by
  have key : ∀ (n : Nat) (cs : List (List Str)), cs.length = n → (listsU sides cs).map (·.1) = cs := by
    intro n
    induction n with
    | zero =>
      intro cs h
      rw [List.length_eq_zero_iff.mp h] <;> rfl
    | succ n ih =>
      intro cs h
      have ne : cs ≠ [] := fun e => by
        rw [e] at h
        cases h
      rw [← List.dropLast_concat_getLast ne, listsU_snoc, List.map_append, ih cs.dropLast (by rw [List.length_dropLast, h] <;> rfl)] <;> rfl
  exact key _ cs rfl
/-! ### the order of the choices -/
theorem choices_sorted (ns : List Str) : (choicesM ns).Pairwise fun a b => a.length ≤ b.length := by
  unfold choicesM
  rw [List.pairwise_flatMap]
  refine ⟨fun m _ => ?_, ?_⟩
  · refine List.Pairwise.imp_of_mem (R := fun _ _ => True) (fun {a b} ha hb _ => ?_) (List.pairwise_of_forall fun _ _ => trivial)
    rw [(chosenM_mem ha).1, (chosenM_mem hb).1]
    exact Nat.le_refl _
  · refine List.Pairwise.imp (R := fun a b => a < b) (fun {a b} h x hx y hy => ?_) List.pairwise_lt_range
    rw [(chosenM_mem hx).1, (chosenM_mem hy).1]
    omega
theorem before {ns x c : List Str} {i : Nat} (hi : (choicesM ns)[i]? = some c) (hx : x ∈ choicesM ns) (h : x.length < c.length) : x ∈ (choicesM ns).take i := by
  obtain ⟨j, hj, e⟩ := List.mem_iff_getElem.mp hx
  obtain ⟨hi2, ei⟩ := List.getElem?_eq_some_iff.mp hi
  rcases Nat.lt_or_ge j i with q | q
  · exact List.mem_iff_getElem.mpr ⟨j, by rw [List.length_take]; omega, by rw [List.getElem_take, e]⟩
  · rcases Nat.lt_or_eq_of_le q with q | q
    · have z := List.pairwise_iff_getElem.mp (choices_sorted ns) i j hi2 hj q
      rw [ei, e] at z
      omega
    · subst q
      rw [ei] at e
      rw [e] at h
      omega
theorem sub_filter : ∀ {p c : List Str}, p.Sublist c → c.Nodup → c.filter (fun n => decide (n ∈ p)) = p
  | _, [], h, _ => by
    cases h
    rfl
  | p, a :: c, h, hn => by
    have ha := (List.nodup_cons.mp hn).1
    have hc := (List.nodup_cons.mp hn).2
    cases h with
    | cons _ h =>
      have hap : a ∉ p := fun z => ha (h.subset z)
      rw [List.filter_cons_of_neg (by simpa using hap)]
      exact sub_filter h hc
    | cons_cons _ h =>
      rename_i q
      rw [List.filter_cons_of_pos (by simp)]
      congr 1
      rw [← sub_filter h hc]
      apply List.filter_congr
      intro x hx
      have hxa : x ≠ a := fun z => ha (z ▸ hx)
      rw [sub_filter h hc]
      simp [hxa]
theorem filter_two (p : Str → Bool) : ∀ l : List Str, (l.filter p).length + (l.filter fun x => !p x).length = l.length
  | [] => rfl
  | a :: l => by
    have ih := filter_two p l
    cases e : p a
    · rw [List.filter_cons_of_neg (by rw [e]; decide), List.filter_cons_of_pos (by rw [e] <;> rfl), List.length_cons, List.length_cons]
      omega
    · rw [List.filter_cons_of_pos e, List.filter_cons_of_neg (by rw [e]; decide), List.length_cons, List.length_cons]
      omega
structure PartOk (c p r : List Str) : Prop where
  sp : p.Sublist c
  sr : r.Sublist c
  len : p.length + r.length = c.length
  p1 : 1 ≤ p.length
  r1 : 1 ≤ r.length
  rest : r = c.filter fun n => decide (n ∉ p)
theorem part_ok {c p r : List Str} (hn : c.Nodup) (h : (p, r) ∈ partingsM c) : PartOk c p r := by
  unfold partingsM at h
  obtain ⟨k, hk, h⟩ := List.mem_flatMap.mp h
  have hk := List.mem_range.mp hk
  unfold partsM at h
  obtain ⟨more, hm, e⟩ := List.mem_map.mp h
  cases e
  obtain ⟨m1, m2⟩ := chosenM_mem hm
  have hp : (c.take 1 ++ more).Sublist c := by
    have := List.Sublist.append (List.Sublist.refl (c.take 1)) m2
    rw [List.take_append_drop] at this
    exact this
  have lp : (c.take 1 ++ more).length = k + 1 := by
    rw [List.length_append, m1, List.length_take]
    omega
  have fl := filter_two (fun n => decide (n ∈ c.take 1 ++ more)) c
  rw [sub_filter hp hn] at fl
  have fe : (c.filter fun x => !decide (x ∈ c.take 1 ++ more)) = c.filter fun n => decide (n ∉ c.take 1 ++ more) := by
    apply List.filter_congr
    intro x _
    simp
  rw [fe] at fl
  exact ⟨hp, List.filter_sublist, by omega, by omega, by omega, rfl⟩
theorem choice_sub {ns c d : List Str} (hc : c ∈ choicesM ns) (hd : d.Sublist c) (h : 1 ≤ d.length) : d ∈ choicesM ns := by
  refine mem_choices.mpr ⟨hd.trans (mem_choices.mp hc).1, fun e => ?_⟩
  rw [e] at h
  exact absurd h (by decide)
theorem part_before {ns c p r : List Str} {i : Nat} (hn : ns.Nodup) (hi : (choicesM ns)[i]? = some c) (h : (p, r) ∈ partingsM c) : p ∈ (choicesM ns).take i ∧ r ∈ (choicesM ns).take i := by
  have hc := List.mem_of_getElem? hi
  have k := part_ok ((mem_choices.mp hc).1.nodup hn) h
  have := k.len
  have := k.p1
  have := k.r1
  exact ⟨before hi (choice_sub hc k.sp k.p1) (by omega), before hi (choice_sub hc k.sr k.r1) (by omega)⟩
/-! ### how long the lists are -/
theorem innerM_len (x : Ld) : ∀ (ys acc : List Ld), (innerM x ys acc).length ≤ acc.length + 18 * ys.length
  | [], acc => by simp [innerM]
  | y :: ys, acc => by
    have h1 := innerM_len x ys (withM acc x y)
    have h2 := withM_len acc x y
    unfold innerM at h1 ⊢
    rw [List.foldl_cons, List.length_cons]
    omega
theorem pairM_len : ∀ (xs ys acc : List Ld), (pairM xs ys acc).length ≤ acc.length + 18 * ys.length * xs.length
  | [], ys, acc => by simp [pairM]
  | x :: xs, ys, acc => by
    have h1 := pairM_len xs ys (innerM x ys acc)
    have h2 := innerM_len x ys acc
    unfold pairM at h1 ⊢
    rw [List.foldl_cons, List.length_cons, Nat.mul_succ]
    omega
def bndM : Nat → Nat
  | 1 => 1
  | 2 => 19
  | 3 => 1027
  | _ => 129403
def perM : Nat → Nat
  | 2 => 18
  | 3 => 342
  | _ => 18486
theorem per_ok {a b : Nat} (ha : 1 ≤ a) (hb : 1 ≤ b) (h : a + b ≤ 4) : 18 * bndM b * bndM a ≤ perM (a + b) := by
  rcases (show (a = 1 ∧ b = 1) ∨ (a = 1 ∧ b = 2) ∨ (a = 2 ∧ b = 1) ∨ (a = 1 ∧ b = 3) ∨ (a = 2 ∧ b = 2) ∨ (a = 3 ∧ b = 1) by omega) with h | h | h | h | h | h <;> (obtain ⟨rfl, rfl⟩ := h; decide)
def SzT (tbl : Tb) : Prop := ∀ c, (getM tbl c).length ≤ bndM c.length
theorem foldP_len {tbl : Tb} (hs : SzT tbl) {n : Nat} (h4 : n ≤ 4) : ∀ (ps : List (List Str × List Str)) (acc : List Ld), (∀ pr ∈ ps, 1 ≤ pr.1.length ∧ 1 ≤ pr.2.length ∧ pr.1.length + pr.2.length = n) → (foldP tbl ps acc).length ≤ acc.length + perM n * ps.length
  | [], acc, _ => by simp [foldP]
  | pr :: ps, acc, h => by
    have h1 := foldP_len hs h4 ps (pairM (getM tbl pr.1) (getM tbl pr.2) acc) fun q hq => h q (List.mem_cons_of_mem _ hq)
    have h2 := pairM_len (getM tbl pr.1) (getM tbl pr.2) acc
    obtain ⟨q1, q2, q3⟩ := h pr (List.mem_cons_self ..)
    have h3 := per_ok q1 q2 (by omega)
    rw [q3] at h3
    have h5 : 18 * (getM tbl pr.2).length * (getM tbl pr.1).length ≤ 18 * bndM pr.2.length * bndM pr.1.length := Nat.mul_le_mul (Nat.mul_le_mul (Nat.le_refl _) (hs _)) (hs _)
    unfold foldP at h1 ⊢
    rw [List.foldl_cons, List.length_cons, Nat.mul_succ]
    omega
theorem partings_count {c : List Str} (h1 : 1 ≤ c.length) (h4 : c.length ≤ 4) : 1 + perM c.length * (partingsM c).length ≤ bndM c.length := by
  match c, h1, h4 with
  | [_], _, _ => exact Nat.le_refl _
  | [_, _], _, _ => exact (by decide : 1 + 18 * 1 ≤ 19)
  | [_, _, _], _, _ => exact (by decide : 1 + 342 * 3 ≤ 1027)
  | [_, _, _, _], _, _ => exact (by decide : 1 + 18486 * 7 ≤ 129403)
theorem firstM_len (sides : Str → List Int) (c : List Str) : (firstM sides c).length ≤ 1 := by
  unfold firstM
  split
  · exact Nat.le_refl _
  · exact Nat.zero_le _
theorem getM_snoc (tbl : Tb) (c d : List Str) (l : List Ld) : getM (tbl ++ [(c, l)]) d = getM tbl d ∨ getM (tbl ++ [(c, l)]) d = l ∧ d = c := by
  unfold getM
  rw [List.find?_append]
  cases e : tbl.find? fun p => decide (p.1 = d) with
  | some p => exact .inl rfl
  | none =>
    by_cases h : c = d
    · exact .inr ⟨by simp [h], h.symm⟩
    · exact .inl (by simp [h])
theorem listM_len {sides : Str → List Int} {tbl : Tb} {c : List Str} (hs : SzT tbl) (hn : c.Nodup) (h1 : 1 ≤ c.length) (h4 : c.length ≤ 4) : (listM sides tbl c).length ≤ bndM c.length := by
  have z1 := foldP_len hs h4 (partingsM c) (firstM sides c) fun pr hpr => by
    have k := part_ok hn (p := pr.1) (r := pr.2) hpr
    exact ⟨k.p1, k.r1, k.len⟩
  have z2 := firstM_len sides c
  have z3 := partings_count h1 h4
  unfold listM
  omega
theorem listsU_sz {sides : Str → List Int} : ∀ (n : Nat) (cs : List (List Str)), cs.length = n → (∀ c ∈ cs, c.Nodup ∧ 1 ≤ c.length ∧ c.length ≤ 4) → SzT (listsU sides cs)
  | 0, cs, h, _ => fun c => by
    rw [List.length_eq_zero_iff.mp h]
    exact Nat.zero_le _
  | n + 1, cs, h, hc => fun d => by
    have ne : cs ≠ [] := fun e => by
      rw [e] at h
      cases h
    have ih := listsU_sz (sides := sides) n cs.dropLast (by rw [List.length_dropLast, h] <;> rfl) fun c hm => hc c ((List.dropLast_sublist cs).subset hm)
    rw [← List.dropLast_concat_getLast ne, listsU_snoc]
    rcases getM_snoc (listsU sides cs.dropLast) (cs.getLast ne) d (listM sides (listsU sides cs.dropLast) (cs.getLast ne)) with e | ⟨e1, e2⟩
    · rw [e]
      exact ih d
    · rw [e1, e2]
      obtain ⟨k1, k2, k3⟩ := hc _ (List.getLast_mem ne)
      exact listM_len ih k1 k2 k3
end BX
/-! the walks: need_names -/
namespace BX
open PySem PySem.Spec PyProof.Rows L2
/-- the sides of the parcel of that name -/
def sidesOf (ps : List Pcl) (n : Str) : List Int := ((ps[(ps.map (·.name)).idxOf n]?).map (·.three)).getD []
theorem of_name {ps : List Pcl} {n : Str} (h : n ∈ ps.map (·.name)) : ∃ p, ps[(ps.map (·.name)).idxOf n]? = some p ∧ p.name = n := by
  have l := List.idxOf_lt_length_of_mem h
  have z : (ps.map (·.name))[(ps.map (·.name)).idxOf n]? = some n := by
    rw [List.getElem?_eq_getElem l, List.getElem_idxOf]
  rw [List.getElem?_map] at z
  exact Option.map_eq_some_iff.mp z
def longM (ps : List Pcl) (n : Str) : Int := gN (srtI true (sidesOf ps n)) 0
def sp_need_names (K : PySem.W.Frag) : Sp := spN 2 fun vs H Q _ => ∃ (a dx l t : Addr) (rs : List Addr) (ps : List Pcl) (ns : List Str), vs = [.ref a, .ref t] ∧ HeapIn K H a dx l rs ps ∧ SeqAt H t (ns.map V.str) ∧ 1 ≤ ns.length ∧ ns.length ≤ 4 ∧ ns.Nodup ∧ (∀ n ∈ ns, n ∈ ps.map (·.name)) ∧
  (ns.map (longM ps)).sum ≤ 100000 ∧ ∀ H', Ex H H' → Q .non H'
abbrev N_need_names : List Str := ["heap", "names", "held", "name"]
theorem sc_need_names : FnScope N_need_names ["heap", "names"] (defScope s_need_names) := ⟨rfl, rfl, rfl, by decide +kernel, rfl, by decide +kernel, by decide +kernel⟩
theorem w_need_names {P : Program} {w : World} {K : PySem.W.Frag} {mg : Str → Option Value} {base : Heap} (T : Tp K mg) (F_Heap_names : FnE P w K mg base 2 (He.ma K (He.ga K "Heap") "names") ["self"] [] (sp_Heap_names K)) (F_Heap_parcel : FnE P w K mg base 3 (He.ma K (He.ga K "Heap") "parcel") ["self", "name"] [] (sp_Heap_parcel K)) (F_Parcel_sides : FnE P w K mg base 1 (He.ma K (He.ga K "Parcel") "sides") ["self"] [] (sp_Parcel_sides K)) (F_Sides_ranked : FnE P w K mg base 1 (He.ma K (He.ga K "Sides") "ranked") ["self"] [] (sp_Sides_ranked K)) : FnE P w K mg base 4 (He.ga K "need_names") ["heap", "names"] [] (sp_need_names K) := by
  refine fne T.f_need_names sc_need_names (fun _ _ _ _ h => h.1) (fun _ _ _ _ _ _ us hl => match us, hl with | [_, _], _ => rfl) fun cdv A outer s H vs Q E hr hsp => ?_
  have nd := sc_need_names.nd
  refine ⟨_, (pss_cons (ps_if (PW.pt (pw_or (pt_not (pt_val (pe_callB (r := rIsiT K) call_isiT (by rfl) T.z_isinstance (by decide +kernel) (pa_cons (pv 1) (pa_cons (pe_tup (pa_cons (pty (n := "list") T.z_list) (pa_cons (pty (n := "tuple") T.z_tuple) pa_nil))) pa_nil))))) (pw_or1 (pt_not (pt_chain op_le op_le pe_int (pe_callB (r := rLenQ K) cLenQ (by rfl) T.z_len (by decide +kernel) (pa_cons (pv 1) pa_nil)) (pgi T.i_MOST_NAMES)))))) pss_never pss_nil)
      (pss_cons (pset 2 nd (pmeth0 (pv 0) T.c_Heap T.m_Heap_names F_Heap_names (hr.mono (by decide))))
      (pss_cons (ps_if (PW.pt (pw_or (pt_not (pt_val (pe_callB (r := rAll K) (cr_all rfl) (by rfl) T.z_all (by decide +kernel) (pa_cons (pe_lc (own := [("name", 3)]) (g := gName 3) rfl nd (pi_seq (pv 1) : PI _ _ _ (iSeq K _)) (blkOk_by (N := N_need_names) (sc := defScope s_need_names) (by decide +kernel)) (fun _ _ _ _ _ => (pgn 3 nd)) (fun _ _ _ _ _ => pts_nil) (fun _ _ _ _ _ => (pe_and (pe_callB (r := rIsi K) call_isi (by rfl) T.z_isinstance (by decide +kernel) (pa_cons (pv 3) (pa_cons (pty (n := "str") T.z_str) pa_nil))) (pe_one (pe_cmpR (r := rIn K false) op_in_seq (pv 3) (pv 2) (by rfl)))))) pa_nil)))) (pw_or1 (pt_cmpR op_lt (plenset T.z_len T.z_set (pv 1) : PE _ _ (tLenSetS K _)) (pe_callB (r := rLenQ K) cLenQ (by rfl) T.z_len (by decide +kernel) (pa_cons (pv 1) pa_nil)) (nomark _))))) pss_never pss_nil)
      (pss_one (ps_if (pt_cmpR op_gt (pe_callB (r := rSum K) (cr_sum rfl) (by rfl) T.z_sum (by decide +kernel) (pa_cons (pe_lc (own := [("name", 3)]) (g := gName 3) rfl nd (pi_seq (pv 1) : PI _ _ _ (iSeq K _)) (blkOk_by (N := N_need_names) (sc := defScope s_need_names) (by decide +kernel)) (fun _ _ _ _ _ => (pgn 3 nd)) (fun _ _ _ _ _ => pts_nil) (fun _ _ _ _ _ => (pe_ix (r := rIxT K) ix_tup (pmeth0 (pmeth0 (pmeth (pv 0) T.c_Heap T.m_Heap_parcel F_Heap_parcel (hr.mono (by decide)) (pa_cons (pv 3) pa_nil)) T.c_Parcel T.m_Parcel_sides F_Parcel_sides (hr.mono (by decide))) T.c_Sides T.m_Sides_ranked F_Sides_ranked (hr.mono (by decide))) pe_int (fun _ _ => rfl)))) pa_nil)) (pgi T.i_MOST_SIDE) (nomark _)) pss_never pss_nil))))), ?_⟩
  replace hsp := hsp.2
  obtain ⟨a, dx, l, t, rs, ps, ns, rfl, hh, ht, l1, l4, hn, hm, hs, q⟩ := hsp
  have lV : (ns.map V.str).length = ns.length := List.length_map _
  refine ⟨_, rfl, szl (by simp), fun tp htp => ?_⟩
  have e1 := Ex.new (o := .tup [.ty "list", .ty "tuple"]) htp
  have ht1 := ht.ex e1
  have hh1 := hh.ex e1
  obtain ⟨ty, hty, hk⟩ := ty_seq (K := K) ht1
  refine ⟨_, tp, _, ty, _, true, rfl, upd_same, .cons (.ty _) (.cons (.ty _) .nil), hty, hk, _, rfl, iteF (by decide) ?_⟩
  refine ⟨_, rfl, t, _, rfl, ht1.q, _, _, rfl, rfl, _, rfl, iteT (by rw [lV]; exact decide_eq_true (by omega)) ⟨_, _, rfl, rfl, _, rfl, ?_⟩⟩
  refine iteF (by rw [lV]; simp; omega) ?_
  refine ⟨_, rfl, a, dx, _, rfl, hh1.at_, rfl, rfl, a, dx, l, rs, ps, rfl, hh1, fun ph H2 nph e2 hph => ?_⟩
  have ht2 := ht1.ex e2
  refine ⟨_, rfl, t, ns.map V.str, rfl, ht2.q, fun J Gd wk hg D hD => lcE wk (fun _ => some (.bl true)) hD (sz_lt (by rw [lV]; omega)) hg (fun i x H3 H4 R S hi e3 hy k1 k2 => ?_) fun H3 e3 hD1 => ?_⟩
  · obtain ⟨rfl, hy⟩ := hy
    rw [List.getElem?_map] at hy
    obtain ⟨n, hn1, rfl⟩ := Option.map_eq_some_iff.mp hy
    refine ⟨rfl, yes (iteT rfl ⟨_, rfl, _, _, _, _, true, rfl, .ty _, .base (.str _), ki_ss, _, rfl, iteT rfl ⟨_, rfl, _, rfl, ph, _, rfl, .inl (sq_of (e3 _ _ hph)), rfl, flat_strs _, k1 _ _ (Ex.refl _) ?_⟩⟩)⟩
    exact congrArg (fun b => some (V.bl b)) (inV_strs (hm n (List.mem_of_getElem? hn1))).symm
  rw [fm_const] at hD1
  have ht3 := ht2.ex e3
  refine ⟨D, List.replicate _ true, rfl, sq_of (by rw [List.map_replicate]; exact hD1), _, rfl, ?_⟩
  rw [all_rep]
  refine iteF (by decide) ⟨_, rfl, t, ns, rfl, ht3.q, hn, by omega, _, rfl, t, _, rfl, ht3.q, _, _, rfl, rfl, _, rfl, iteF (by rw [lV]; simp) ?_⟩
  refine ⟨_, rfl, t, ns.map V.str, rfl, ht3.q, fun J Gd wk hg D2 hD2 => lcE wk (fun i => (ns[i]?).map fun n => V.int (longM ps n)) hD2 (sz_lt (by rw [lV]; omega)) hg (fun i x H4 H5 R S hi e4 hy k1 k2 => ?_) fun H4 e4 hD3 => ?_⟩
  · obtain ⟨rfl, hy⟩ := hy
    rw [List.getElem?_map] at hy
    obtain ⟨n, hn1, rfl⟩ := Option.map_eq_some_iff.mp hy
    have hnm := hm n (List.mem_of_getElem? hn1)
    obtain ⟨p, hp, epn⟩ := of_name hnm
    have hh4 := ((hh1.ex e2).ex e3).ex e4
    obtain ⟨r, hr1, dp, s1, m, g1, g2, g3, ok⟩ := pr_at2 hh4.par hp
    refine ⟨rfl, yes (iteT rfl ⟨_, rfl, a, dx, _, rfl, hh4.at_, rfl, _, rfl, rfl, a, dx, l, rs, ps, n, r, rfl, hh4, hnm, hr1, fun H6 e6 => ?_⟩)⟩
    obtain ⟨dxs, ts, t1, t2, t3⟩ := id (g2.ex e6)
    refine ⟨r, dp, _, rfl, e6 _ _ g1, rfl, rfl, r, dp, s1, m, p, rfl, e6 _ _ g1, s1, dxs, _, rfl, t1, rfl, rfl, s1, p.three, rfl, g2.ex e6, fun tr H7 e7 htr => ⟨tr, _, 0, _, rfl, rfl, st_of htr, vi_get (k := 0) (by rw [srtI_len, t3]; decide), k1 _ _ (e6.trans e7) ?_⟩⟩
    rw [hn1]
    show some (V.int (gN (srtI true (sidesOf ps n)) 0)) = _
    unfold sidesOf
    rw [hp] <;> rfl
  · rw [lV, fm_map] at hD3
    refine ⟨D2, ns.map (longM ps), rfl, sq_of (by rw [hD3, List.map_map] <;> rfl), _, _, rfl, rfl, _, rfl, iteF ?_ (q _ (((e1.trans e2).trans e3).trans e4))⟩
    rw [decide_eq_true_iff]
    omega
end BX
/-! the mathematics: what is told is well made, of just these parcels, and its sides are told -/
namespace BX
open PySem
def spanM (sides : Str → List Int) : Pap → List Int
  | .one n o => turnM (sides n) o
  | .by ax a b => besideM (spanM sides a) (spanM sides b) ax
theorem gN_turn {l : List Int} {o : List Nat} {k : Nat} (h : k < o.length) : gN (turnM l o) k = gN l (gO o k) := by
  unfold gO
  rw [List.getD_eq_getElem?_getD, List.getElem?_eq_getElem h]
  show (turnM l o).getD k 0 = _
  unfold turnM
  rw [List.getD_eq_getElem?_getD, List.getElem?_map, List.getElem?_eq_getElem h] <;> rfl
theorem innerM_cons (x y : Ld) (ys acc : List Ld) : innerM x (y :: ys) acc = innerM x ys (withM acc x y) := by
  unfold innerM
  rw [List.foldl_cons]
theorem pairM_cons (x : Ld) (xs ys acc : List Ld) : pairM (x :: xs) ys acc = pairM xs ys (innerM x ys acc) := by
  unfold pairM
  rw [List.foldl_cons]
theorem foldP_cons (tbl : Tb) (pr : List Str × List Str) (ps : List (List Str × List Str)) (acc : List Ld) : foldP tbl (pr :: ps) acc = foldP tbl ps (pairM (getM tbl pr.1) (getM tbl pr.2) acc) := by
  unfold foldP
  rw [List.foldl_cons]
theorem turn_turn {l : List Int} {o o' : List Nat} (h : ∀ k ∈ o, k < o'.length) : turnM (turnM l o') o = turnM l (o.map (gO o')) := by
  unfold turnM
  rw [List.map_map]
  apply List.map_congr_left
  intro k hk
  exact gN_turn (h k hk)
theorem beside_turn {f s : List Int} {o : List Nat} {ax : Nat} (ho : o ∈ ordersM) (ha : ax < 3) : besideM (turnM f o) (turnM s o) (o.idxOf ax) = turnM (besideM f s ax) o := by
  simp only [ordersM, List.mem_cons, List.not_mem_nil, or_false] at ho
  rcases (show ax = 0 ∨ ax = 1 ∨ ax = 2 by omega) with r | r | r <;> subst r <;> rcases ho with r | r | r | r | r | r <;> subst r <;> rfl
theorem span_turn (sides : Str → List Int) {o : List Nat} (ho : o ∈ ordersM) : ∀ p, papOk p → spanM sides (turnP o p) = turnM (spanM sides p) o
  | .one n o', h => (turn_turn (l := sides n) (o := o) (o' := o') fun k hk => by rw [orders_len o' h]; exact orders_lt o ho k hk).symm
  | .by ax a b, ⟨h1, h2, h3⟩ => by
    show besideM (spanM sides (turnP o a)) (spanM sides (turnP o b)) (o.idxOf ax) = turnM (besideM (spanM sides a) (spanM sides b) ax) o
    rw [span_turn sides ho a h2, span_turn sides ho b h3, beside_turn ho h1]
/-- a told one of the choice c -/
structure LdOk (sides : Str → List Int) (c : List Str) (x : Ld) : Prop where
  ok : papOk x.1
  dep : papDep x.1 ≤ c.length
  names : (papN x.1).Perm c
  span : x.2 = spanM sides x.1
  len : x.2.length = 3
theorem ways_mem {f s : List Int} {w : Way} (h : w ∈ waysM f s) : w.1 ∈ ordersM ∧ w.2.1 < 3 ∧ w.2.2 = besideM f (turnM s w.1) w.2.1 := by
  unfold waysM at h
  obtain ⟨o, ho, h⟩ := List.mem_flatMap.mp h
  unfold ways3 at h
  obtain ⟨ax, ha, e⟩ := List.mem_map.mp h
  rw [← e]
  exact ⟨ho, List.mem_range.mp ha, rfl⟩
theorem mem_ways {f s : List Int} {o : List Nat} {ax : Nat} (ho : o ∈ ordersM) (ha : ax < 3) : (o, ax, besideM f (turnM s o) ax) ∈ waysM f s :=
  List.mem_flatMap.mpr ⟨o, ho, List.mem_map.mpr ⟨ax, List.mem_range.mpr ha, rfl⟩⟩
theorem names_perm {c p r : List Str} (hn : c.Nodup) (h : PartOk c p r) : (p ++ r).Perm c := by
  have e1 := sub_filter h.sp hn
  have e2 := h.rest
  have fe : (c.filter fun x => !decide (x ∈ p)) = c.filter fun n => decide (n ∉ p) := by
    apply List.filter_congr
    intro x _
    simp
  rw [← fe] at e2
  have z := List.filter_append_perm (fun n => decide (n ∈ p)) c
  rw [e1, ← e2] at z
  exact z
theorem step_ok {sides : Str → List Int} {c p r : List Str} {x y : Ld} (hn : c.Nodup) (hp : PartOk c p r) (hx : LdOk sides p x) (hy : LdOk sides r y) {ls : List Ld} (hl : ∀ z ∈ ls, LdOk sides c z) {w : Way} (hw : w ∈ waysM x.2 y.2) : ∀ z ∈ stepM x y ls w, LdOk sides c z := by
  intro z hz
  unfold stepM at hz
  split at hz
  · exact hl z hz
  · rcases List.mem_append.mp hz with hz | hz
    · exact hl z (List.mem_filter.mp hz).1
    · rw [List.mem_singleton.mp hz]
      obtain ⟨w1, w2, w3⟩ := ways_mem hw
      have a := hp.len
      have b := hp.p1
      have d := hp.r1
      refine ⟨⟨w2, hx.ok, turnP_ok w1 _ hy.ok⟩, ?_, ?_, ?_, ?_⟩
      · show max (papDep x.1) (papDep (turnP w.1 y.1)) + 1 ≤ c.length
        rw [turnP_dep]
        have := hx.dep
        have := hy.dep
        omega
      · show (papN x.1 ++ papN (turnP w.1 y.1)).Perm c
        rw [turnP_names]
        exact (hx.names.append hy.names).trans (names_perm hn hp)
      · show w.2.2 = besideM (spanM sides x.1) (spanM sides (turnP w.1 y.1)) w.2.1
        rw [w3, span_turn sides w1 _ hy.ok, ← hx.span, ← hy.span]
      · show w.2.2.length = 3
        rw [w3] <;> rfl
theorem with_ok {sides : Str → List Int} {c p r : List Str} {x y : Ld} (hn : c.Nodup) (hp : PartOk c p r) (hx : LdOk sides p x) (hy : LdOk sides r y) {ls : List Ld} (hl : ∀ z ∈ ls, LdOk sides c z) : ∀ z ∈ withM ls x y, LdOk sides c z := by
  have key : ∀ (ws : List Way) (ls : List Ld), (∀ w ∈ ws, w ∈ waysM x.2 y.2) → (∀ z ∈ ls, LdOk sides c z) → ∀ z ∈ ws.foldl (stepM x y) ls, LdOk sides c z := by
    intro ws
    induction ws with
    | nil => exact fun ls _ h => h
    | cons w ws ih => exact fun ls hw h => ih _ (fun v hv => hw v (List.mem_cons_of_mem _ hv)) (step_ok hn hp hx hy h (hw w (List.mem_cons_self ..)))
  exact key _ ls (fun _ h => h) hl
theorem inner_ok {sides : Str → List Int} {c p r : List Str} {x : Ld} (hn : c.Nodup) (hp : PartOk c p r) (hx : LdOk sides p x) : ∀ {ys acc : List Ld}, (∀ y ∈ ys, LdOk sides r y) → (∀ z ∈ acc, LdOk sides c z) → ∀ z ∈ innerM x ys acc, LdOk sides c z
  | [], _, _, h => h
  | y :: ys, acc, hy, h => by
    rw [innerM_cons]
    exact inner_ok (ys := ys) (acc := withM acc x y) hn hp hx (fun v hv => hy v (List.mem_cons_of_mem _ hv)) (with_ok hn hp hx (hy y (List.mem_cons_self ..)) h)
theorem pair_ok {sides : Str → List Int} {c p r : List Str} (hn : c.Nodup) (hp : PartOk c p r) : ∀ {xs ys acc : List Ld}, (∀ x ∈ xs, LdOk sides p x) → (∀ y ∈ ys, LdOk sides r y) → (∀ z ∈ acc, LdOk sides c z) → ∀ z ∈ pairM xs ys acc, LdOk sides c z
  | [], _, _, _, _, h => h
  | x :: xs, ys, acc, hx, hy, h => by
    rw [pairM_cons]
    exact pair_ok (xs := xs) (ys := ys) (acc := innerM x ys acc) hn hp (fun v hv => hx v (List.mem_cons_of_mem _ hv)) hy (inner_ok hn hp (hx x (List.mem_cons_self ..)) hy h)
/-- every list of the table is of told ones of its choice -/
def TbOk (sides : Str → List Int) (tbl : Tb) : Prop := ∀ c, ∀ x ∈ getM tbl c, LdOk sides c x
theorem foldP_ok {sides : Str → List Int} {tbl : Tb} (ht : TbOk sides tbl) {c : List Str} (hn : c.Nodup) : ∀ {ps : List (List Str × List Str)} {acc : List Ld}, (∀ pr ∈ ps, PartOk c pr.1 pr.2) → (∀ z ∈ acc, LdOk sides c z) → ∀ z ∈ foldP tbl ps acc, LdOk sides c z
  | [], _, _, h => h
  | pr :: ps, acc, hp, h => by
    rw [foldP_cons]
    exact foldP_ok (ps := ps) (acc := pairM (getM tbl pr.1) (getM tbl pr.2) acc) ht hn (fun v hv => hp v (List.mem_cons_of_mem _ hv)) (pair_ok hn (hp pr (List.mem_cons_self ..)) (ht _) (ht _) h)
theorem first_ok {sides : Str → List Int} {c : List Str} (hs : ∀ n ∈ c, (sides n).length = 3) : ∀ z ∈ firstM sides c, LdOk sides c z := by
  intro z hz
  unfold firstM at hz
  split at hz
  · rename_i n
    rw [List.mem_singleton.mp hz]
    have l3 := hs n (List.mem_singleton.mpr rfl)
    refine ⟨by show [0, 1, 2] ∈ ordersM; decide, Nat.le_refl _, List.Perm.refl _, ?_, l3⟩
    show sides n = turnM (sides n) [0, 1, 2]
    match h : sides n, l3 with
    | [a, b, d], _ => rfl
  · cases hz
theorem list_ok {sides : Str → List Int} {tbl : Tb} (ht : TbOk sides tbl) {c : List Str} (hn : c.Nodup) (hs : ∀ n ∈ c, (sides n).length = 3) : ∀ z ∈ listM sides tbl c, LdOk sides c z :=
  foldP_ok ht hn (fun _ hp => part_ok hn hp) (first_ok hs)
theorem listsU_ok {sides : Str → List Int} : ∀ (n : Nat) (cs : List (List Str)), cs.length = n → (∀ c ∈ cs, c.Nodup ∧ ∀ n ∈ c, (sides n).length = 3) → TbOk sides (listsU sides cs)
  | 0, cs, h, _ => fun c x hx => by
    rw [List.length_eq_zero_iff.mp h] at hx
    cases hx
  | n + 1, cs, h, hc => fun d => by
    have ne : cs ≠ [] := fun e => by
      rw [e] at h
      cases h
    have ih := listsU_ok (sides := sides) n cs.dropLast (by rw [List.length_dropLast, h] <;> rfl) fun c hm => hc c ((List.dropLast_sublist cs).subset hm)
    rw [← List.dropLast_concat_getLast ne, listsU_snoc]
    rcases getM_snoc (listsU sides cs.dropLast) (cs.getLast ne) d (listM sides (listsU sides cs.dropLast) (cs.getLast ne)) with e | ⟨e1, e2⟩
    · rw [e]
      exact ih d
    · rw [e1, e2]
      obtain ⟨k1, k2⟩ := hc _ (List.getLast_mem ne)
      exact list_ok ih k1 k2
/-! ### no choice twice -/
theorem chosen_nodup : ∀ {ns : List Str} {k : Nat}, ns.Nodup → (chosenM ns k).Nodup
  | _, 0, _ => by
    unfold chosenM
    exact List.nodup_cons.mpr ⟨by simp, List.nodup_nil⟩
  | [], _ + 1, _ => by
    unfold chosenM
    exact List.nodup_nil
  | n :: r, k + 1, h => by
    obtain ⟨h1, h2⟩ := List.nodup_cons.mp h
    unfold chosenM
    rw [List.nodup_append]
    refine ⟨?_, chosen_nodup h2, fun a ha b hb e => ?_⟩
    · exact List.Pairwise.map _ (fun a b (hab : a ≠ b) e => hab (List.cons.inj e).2) (chosen_nodup (k := k) h2)
    · obtain ⟨d, _, rfl⟩ := List.mem_map.mp ha
      rw [← e] at hb
      exact h1 ((chosenM_mem hb).2.subset (List.mem_cons_self ..))
theorem choices_nodup {ns : List Str} (h : ns.Nodup) : (choicesM ns).Nodup := by
  unfold choicesM List.Nodup
  rw [List.pairwise_flatMap]
  refine ⟨fun m _ => chosen_nodup h, List.Pairwise.imp (R := fun a b => a < b) (fun {a b} hab x hx y hy e => ?_) List.pairwise_lt_range⟩
  have h1 := (chosenM_mem hx).1
  have h2 := (chosenM_mem hy).1
  rw [e] at h1
  omega
theorem not_before {cs : List (List Str)} (h : cs.Nodup) {i : Nat} {c : List Str} (hi : cs[i]? = some c) : c ∉ cs.take i := by
  intro hm
  obtain ⟨j, hj, e⟩ := List.mem_iff_getElem.mp hm
  rw [List.length_take] at hj
  rw [List.getElem_take] at e
  obtain ⟨hi2, ei⟩ := List.getElem?_eq_some_iff.mp hi
  have z := List.pairwise_iff_getElem.mp h j i (by omega) hi2 (by omega)
  exact z (e.trans ei.symm)
end BX
/-! the walks: the lists -/
namespace BX
open PySem PySem.Spec PyProof.Rows L2
def keyM (c : List Str) : List L2.Key := c.map Sum.inr
theorem keyV (c : List Str) : (keyM c).map kV = c.map V.str := by
  unfold keyM
  rw [List.map_map] <;> rfl
theorem key_inj {c d : List Str} (h : keyM c = keyM d) : c = d := by
  unfold keyM at h
  exact List.map_inj_right (fun a b e => Sum.inr.inj e) |>.mp h
/-- the table of the lists, as the dict's pairs -/
def TblAt (K : PySem.W.Frag) (G : Hp) (kvs : List (List L2.Key × V)) (tbl : Tb) : Prop := Paired (fun kv cl => kv.1 = keyM cl.1 ∧ ∃ l, kv.2 = .ref l ∧ LdsL K G l cl.2) kvs tbl
theorem TblAt.ex {K : PySem.W.Frag} {G G' : Hp} {kvs : List (List L2.Key × V)} {tbl : Tb} (h : TblAt K G kvs tbl) (e : Ex G G') : TblAt K G' kvs tbl := Paired.mapP h fun _ _ ⟨h1, l, h2, h3⟩ => ⟨h1, l, h2, h3.ex e⟩
theorem getM_cons (c d : List Str) (l : List Ld) (tbl : Tb) : getM ((d, l) :: tbl) c = if d = c then l else getM tbl c := by
  unfold getM
  rw [List.find?_cons]
  by_cases e : d = c <;> simp [e]
theorem tbl_get {K : PySem.W.Frag} {G : Hp} : ∀ {kvs : List (List L2.Key × V)} {tbl : Tb} {c : List Str}, TblAt K G kvs tbl → c ∈ tbl.map (·.1) → ∃ l, valV kvs (keyM c) = some (.ref l) ∧ LdsL K G l (getM tbl c)
  | _, _, c, .nil, h => by cases h
  | kv :: kvs, (d, ls) :: tbl, c, .cons ⟨h1, l, h2, h3⟩ t, h => by
    by_cases e : d = c
    · refine ⟨l, ?_, ?_⟩
      · rw [valV_pos (by rw [h1, ← e]), h2]
      · rw [getM_cons, if_pos e]
        exact h3
    · have h4 : c ∈ tbl.map (·.1) := by
        rcases List.mem_cons.mp h with z | z
        · exact absurd z.symm e
        · exact z
      obtain ⟨l2, g1, g2⟩ := tbl_get (kvs := kvs) t h4
      refine ⟨l2, ?_, ?_⟩
      · rw [valV_neg (fun z => e (key_inj (h1.symm.trans z))), g1]
      · rw [getM_cons, if_neg e]
        exact g2
theorem tbl_none {K : PySem.W.Frag} {G : Hp} : ∀ {kvs : List (List L2.Key × V)} {tbl : Tb} {c : List Str}, TblAt K G kvs tbl → c ∉ tbl.map (·.1) → valV kvs (keyM c) = none
  | _, _, _, .nil, _ => rfl
  | kv :: kvs, (d, ls) :: tbl, c, .cons ⟨h1, _⟩ t, h => by
    have e : ¬ d = c := fun e => h (by rw [e]; exact List.mem_cons_self ..)
    rw [valV_neg (fun z => e (key_inj (h1.symm.trans z)))]
    exact tbl_none t fun z => h (List.mem_cons_of_mem _ z)
theorem per_le (n : Nat) : perM n ≤ 18486 := by
  unfold perM
  split <;> decide
theorem bnd_le (n : Nat) : bndM n ≤ 129403 := by
  unfold bndM
  split <;> decide
theorem bnd3 {n : Nat} (h1 : 1 ≤ n) (h : n ≤ 3) : bndM n ≤ 1027 := by
  rcases (show n = 1 ∨ n = 2 ∨ n = 3 by omega) with r | r | r <;> (subst r; decide)
theorem foldP_snoc (tbl : Tb) (ps : List (List Str × List Str)) (pr : List Str × List Str) (acc : List Ld) : foldP tbl (ps ++ [pr]) acc = pairM (getM tbl pr.1) (getM tbl pr.2) (foldP tbl ps acc) := by
  unfold foldP
  rw [List.foldl_append, List.foldl_cons, List.foldl_nil]
theorem pairM_snoc (xs ys acc : List Ld) (x : Ld) : pairM (xs ++ [x]) ys acc = innerM x ys (pairM xs ys acc) := by
  unfold pairM
  rw [List.foldl_append, List.foldl_cons, List.foldl_nil]
theorem innerM_snoc (x y : Ld) (ys acc : List Ld) : innerM x (ys ++ [y]) acc = withM (innerM x ys acc) x y := by
  unfold innerM
  rw [List.foldl_append, List.foldl_cons, List.foldl_nil]
theorem take_snoc {α : Type} {l : List α} {i : Nat} {a : α} (h : l[i]? = some a) : l.take (i + 1) = l.take i ++ [a] := by
  rw [List.take_succ, h] <;> rfl
/-- the pairs of lists laid beside, and the store -/
theorem laid_tail {K : PySem.W.Frag} {sides : Str → List Int} {G0 H0 G1 H1 : Hp} {d ca l2 : Addr} {kvs : List (List L2.Key × V)} {tbl : Tb} {c : List Str} {fst : List Ld} {D : Ends} {va vt o5 o6 o7 o8 : Option V} (g1 : Gr none G0 H0 G1 H1) (nd0 : H0 d = none) (gd : G1 d = none) (hd : H1 d = some (.dT kvs))
    (ht : TblAt K G1 kvs tbl) (tc : TupS G1 ca c) (hl : LdsL K G1 l2 fst) (cN : c.Nodup) (c1 : 1 ≤ c.length) (c4 : c.length ≤ 4) (hsz : SzT tbl) (hok : TbOk sides tbl) (hpt : ∀ pr ∈ partingsM c, pr.1 ∈ tbl.map (·.1) ∧ pr.2 ∈ tbl.map (·.1)) (hnew : c ∉ tbl.map (·.1)) (tl : tbl.length ≤ 1000) (lf : fst.length ≤ 1)
    (k : ∀ G' H' l3 p5 p6 p7 p8, Gr none G0 H0 G' H' → Ex G1 G' → G' d = none → H' d = some (.dT (kvs ++ [(keyM c, .ref l3)])) → LdsL K G' l3 (foldP tbl (partingsM c) fst) → D.nx [va, vt, some (.ref d), some (.ref ca), some (.ref l3), p5, p6, p7, p8] H') :
    (tSeq (tFor (iList K (tCall (sp_partings_of K) [] E0 (tCons (tVar 3) tNil))) (gTup K 2 (gCons (gName 5) (gCons (gName 6) gNil))) (tFor (iList K (tDGet (tVar 2) (tVar 5))) (gName 7) (tFor (iList K (tDGet (tVar 2) (tVar 6))) (gName 8) (tAsg (tCall (sp_with_two K) [] E0 (tCons (tVar 4) (tCons (tVar 7) (tCons (tVar 8) tNil)))) (gName 4))))) (sDPut (tVar 2) (tVar 3) (tVar 4)))
      D [va, vt, some (.ref d), some (.ref ca), some (.ref l2), o5, o6, o7, o8] H1 := by
  have pk : ∀ pr ∈ partingsM c, PartOk c pr.1 pr.2 := fun pr hpr => part_ok cN hpr
  refine ⟨_, rfl, rfl, G1, ca, c, rfl, g1.s, tc, c1, c4, fun pl prs Gp Hp gp hpl hpr => ?_⟩
  have gdp := gp.out gd hd
  refine ⟨pl, rfl, ⟨_, sq_of (gp.s _ _ hpl)⟩, forE (walk_list (xs := prs.map V.ref)) (fun j σ H' => ∃ G' l3 p5 p6 p7 p8, σ = [va, vt, some (.ref d), some (.ref ca), some (.ref l3), p5, p6, p7, p8] ∧ Gr none G0 H0 G' H' ∧ Ex Gp G' ∧ G' d = none ∧ H' d = some (.dT kvs) ∧ LdsL K G' l3 (foldP tbl ((partingsM c).take j) fst))
    ⟨Gp, l2, o5, o6, o7, o8, rfl, g1.step gp, Ex.refl _, gdp, gp.e _ _ hd, hl.ex gp.g⟩ (fun j σ H' _ pv => ?_) (fun j z σ H2 H3 N hj pv hy k1 => ?_) fun σ H' pv => ?_⟩
  · obtain ⟨G', _, _, _, _, _, _, g, e, _⟩ := pv
    exact sq_of (g.s _ _ (e _ _ hpl))
  · obtain ⟨G2, l3, p5, p6, p7, p8, rfl, g2, e2, gd2, hd2, hl2⟩ := pv
    obtain ⟨rfl, hy⟩ := hy
    rw [List.getElem?_map] at hy
    obtain ⟨rj, hrj, rfl⟩ := Option.map_eq_some_iff.mp hy
    obtain ⟨pr, hpj, pa, ra, q1, q2, q3⟩ := pr_at (hpr.ex e2) hrj
    have hpm := List.mem_of_getElem? hpj
    obtain ⟨m1, m2⟩ := hpt pr hpm
    have ok := pk pr hpm
    have e12 := gp.g.trans e2
    obtain ⟨xl, v1, xr, x1, x2⟩ := tbl_get (ht.ex e12) m1
    obtain ⟨yl, w1, yr, y1, y2⟩ := tbl_get (ht.ex e12) m2
    -- sizes
    have bJ : (foldP tbl ((partingsM c).take j) fst).length ≤ 129403 := by
      have z1 := foldP_len hsz c4 ((partingsM c).take j) fst fun q hq => by
        have o := pk q (List.mem_of_mem_take hq)
        exact ⟨o.p1, o.r1, o.len⟩
      have z2 := partings_count c1 c4
      have z3 := bnd_le c.length
      have z4 : perM c.length * ((partingsM c).take j).length ≤ perM c.length * (partingsM c).length := Nat.mul_le_mul_left _ (List.length_take_le' _ _)
      omega
    have bX : 18 * (getM tbl pr.2).length * (getM tbl pr.1).length ≤ 18486 := by
      have z1 := per_ok ok.p1 ok.r1 (by rw [ok.len]; exact c4)
      have z2 : 18 * (getM tbl pr.2).length * (getM tbl pr.1).length ≤ 18 * bndM pr.2.length * bndM pr.1.length := Nat.mul_le_mul (Nat.mul_le_mul (Nat.le_refl _) (hsz _)) (hsz _)
      have z3 := per_le (pr.1.length + pr.2.length)
      omega
    have bY : 18 * (getM tbl pr.2).length ≤ 18486 := by
      have z1 := hsz pr.2
      have z2 := bnd3 ok.r1 (by have := ok.len; have := ok.p1; omega)
      omega
    generalize hA : foldP tbl ((partingsM c).take j) fst = A at *
    have fin : foldP tbl ((partingsM c).take (j + 1)) fst = pairM (getM tbl pr.1) (getM tbl pr.2) A := by
      rw [take_snoc hpj, foldP_snoc, hA]
    refine ⟨rj, _, rfl, st_of (g2.s _ _ q1), rfl, _, _, rfl, _, _, rfl, rfl, ?_⟩
    refine ⟨_, rfl, _, rfl, d, _, rfl, (by rw [← v1]; exact DGet.t hd2 (by rw [keyV]; exact g2.s _ _ q2)), xl, rfl, ⟨_, sq_of (g2.s _ _ x1)⟩, forE (walk_list (xs := xr.map V.ref)) (fun i σ H' => ∃ G' l3 p7 p8, σ = [va, vt, some (.ref d), some (.ref ca), some (.ref l3), some (.ref pa), some (.ref ra), p7, p8] ∧ Gr none G0 H0 G' H' ∧ Ex G2 G' ∧ G' d = none ∧ H' d = some (.dT kvs) ∧ LdsL K G' l3 (pairM ((getM tbl pr.1).take i) (getM tbl pr.2) A))
      ⟨G2, l3, p7, p8, rfl, g2, Ex.refl _, gd2, hd2, hl2⟩ (fun i σ H' _ pv => ?_) (fun i z σ H4 H5 N2 hi pv hy k2 => ?_) fun σ H' pv => ?_⟩
    · obtain ⟨G', _, _, _, _, g, e, _⟩ := pv
      exact sq_of (g.s _ _ (e _ _ x1))
    · obtain ⟨G3, l3, p7, p8, rfl, g3, e3, gd3, hd3, hl3⟩ := pv
      obtain ⟨rfl, hy⟩ := hy
      rw [List.getElem?_map] at hy
      obtain ⟨xa, hxa, rfl⟩ := Option.map_eq_some_iff.mp hy
      obtain ⟨x, hx, xat⟩ := pr_at (x2.ex e3) hxa
      have hxok := hok pr.1 x (List.mem_of_getElem? hx)
      have bI : (pairM ((getM tbl pr.1).take i) (getM tbl pr.2) A).length ≤ 147889 := by
        have z1 := pairM_len ((getM tbl pr.1).take i) (getM tbl pr.2) A
        have z2 : 18 * (getM tbl pr.2).length * ((getM tbl pr.1).take i).length ≤ 18 * (getM tbl pr.2).length * (getM tbl pr.1).length := Nat.mul_le_mul_left _ (List.length_take_le' _ _)
        omega
      generalize hB : pairM ((getM tbl pr.1).take i) (getM tbl pr.2) A = B at *
      have finB : pairM ((getM tbl pr.1).take (i + 1)) (getM tbl pr.2) A = innerM x (getM tbl pr.2) B := by
        rw [take_snoc hx, pairM_snoc, hB]
      refine ⟨_, rfl, _, rfl, d, _, rfl, (by rw [← w1]; exact DGet.t hd3 (by rw [keyV]; exact g3.s _ _ (e3 _ _ q3))), yl, rfl, ⟨_, sq_of (g3.s _ _ (e3 _ _ y1))⟩, forE (walk_list (xs := yr.map V.ref)) (fun n σ H' => ∃ G' l3 p8, σ = [va, vt, some (.ref d), some (.ref ca), some (.ref l3), some (.ref pa), some (.ref ra), some (.ref xa), p8] ∧ Gr none G0 H0 G' H' ∧ Ex G3 G' ∧ G' d = none ∧ H' d = some (.dT kvs) ∧ LdsL K G' l3 (innerM x ((getM tbl pr.2).take n) B))
        ⟨G3, l3, p8, rfl, g3, Ex.refl _, gd3, hd3, hl3⟩ (fun n σ H' _ pv => ?_) (fun n z σ H6 H7 N3 hn pv hy k3 => ?_) fun σ H' pv => ?_⟩
      · obtain ⟨G', _, _, _, g, e, _⟩ := pv
        exact sq_of (g.s _ _ (e _ _ (e3 _ _ y1)))
      · obtain ⟨G4, l3, p8, rfl, g4, e4, gd4, hd4, hl4⟩ := pv
        obtain ⟨rfl, hy⟩ := hy
        rw [List.getElem?_map] at hy
        obtain ⟨ya, hya, rfl⟩ := Option.map_eq_some_iff.mp hy
        obtain ⟨y, hy2, yat⟩ := pr_at (y2.ex (e3.trans e4)) hya
        have hyok := hok pr.2 y (List.mem_of_getElem? hy2)
        have bN : (innerM x ((getM tbl pr.2).take n) B).length ≤ 200000 := by
          have z1 := innerM_len x ((getM tbl pr.2).take n) B
          have z2 := List.length_take_le' n (getM tbl pr.2)
          omega
        refine ⟨_, rfl, _, rfl, _, rfl, rfl, G4, l3, xa, ya, innerM x ((getM tbl pr.2).take n) B, x, y, rfl, g4.s, hl4, bN, xat.ex e4, yat, hyok.ok, ?_, fun l5 G5 H5 g5 h5 => k3 _ _ ⟨G5, l5, _, rfl, g4.step g5, e4.trans g5.g, g5.out gd4 hd4, g5.e _ _ hd4, ?_⟩⟩
        · have := hyok.dep
          have := ok.len
          omega
        · rw [take_snoc hy2, innerM_snoc]
          exact h5
      · obtain ⟨G4, l3, p8, rfl, g4, e4, gd4, hd4, hl4⟩ := pv
        have ly : (yr.map V.ref).length = (getM tbl pr.2).length := by rw [List.length_map, y2.length]
        rw [ly, List.take_length] at hl4
        exact k2 _ _ ⟨G4, l3, _, _, rfl, g4, e3.trans e4, gd4, hd4, by rw [finB]; exact hl4⟩
    · obtain ⟨G3, l3, p7, p8, rfl, g3, e3, gd3, hd3, hl3⟩ := pv
      have lx : (xr.map V.ref).length = (getM tbl pr.1).length := by rw [List.length_map, x2.length]
      rw [lx, List.take_length] at hl3
      exact k1 _ _ ⟨G3, l3, _, _, _, _, rfl, g3, e2.trans e3, gd3, hd3, by rw [fin]; exact hl3⟩
  · obtain ⟨G2, l3, p5, p6, p7, p8, rfl, g2, e2, gd2, hd2, hl2⟩ := pv
    have lp : (prs.map V.ref).length = (partingsM c).length := by rw [List.length_map, hpr.length]
    rw [lp, List.take_length] at hl2
    have hv := tbl_none (ht.ex (gp.g.trans e2)) hnew
    have pu := DPut.t (v := .ref l3) hd2 (k := keyM c) (b := ca) (by rw [keyV]; exact g2.s _ _ (e2 _ _ (gp.g _ _ tc))) (sz_lt (by rw [ht.length]; omega))
    rw [putK_new _ hv] at pu
    exact ⟨_, rfl, _, rfl, _, rfl, d, _, rfl, pu, k G2 _ l3 _ _ _ _ (g2.mut nd0 gd2) (gp.g.trans e2) gd2 upd_same hl2⟩
def sp_laid_lists (K : PySem.W.Frag) : Sp := spN 2 fun vs H Q _ => ∃ (G : Hp) (a dx l t : Addr) (rs : List Addr) (ps : List Pcl) (ns : List Str), vs = [.ref a, .ref t] ∧ Ex G H ∧ HeapIn K H a dx l rs ps ∧ PsAt K G rs ps ∧ SeqAt G t (ns.map V.str) ∧ ns.length ≤ 4 ∧ ns.Nodup ∧ (∀ n ∈ ns, n ∈ ps.map (·.name)) ∧
  ∀ d kvs G' H', Gr none G H G' H' → H d = none → G' d = none → H' d = some (.dT kvs) → TblAt K G' kvs (listsM (sidesOf ps) ns) → Q (.ref d) H'
abbrev N_laid_lists : List Str := ["heap", "names", "lists", "choice", "listed", "part", "rest", "one", "other"]
theorem sc_laid_lists : FnScope N_laid_lists ["heap", "names"] (defScope s_laid_lists) := ⟨rfl, rfl, rfl, by decide +kernel, rfl, by decide +kernel, by decide +kernel⟩
theorem w_laid_lists {P : Program} {w : World} {K : PySem.W.Frag} {mg : Str → Option Value} {base : Heap} (T : Tp K mg) (F_Heap_parcel : FnE P w K mg base 3 (He.ma K (He.ga K "Heap") "parcel") ["self", "name"] [] (sp_Heap_parcel K)) (F_Laid_init : FnE P w K mg base 1 (He.ma K (He.ga K "Laid") "__init__") ["self", "paper", "three"] [] (sp_Laid_init K)) (F_Parcel_sides : FnE P w K mg base 1 (He.ma K (He.ga K "Parcel") "sides") ["self"] [] (sp_Parcel_sides K)) (F_Sides_told : FnE P w K mg base 1 (He.ma K (He.ga K "Sides") "told") ["self"] [] (sp_Sides_told K)) (F_choices_of : FnE P w K mg base 6 (He.ga K "choices_of") ["names"] [] (sp_choices_of K)) (F_partings_of : FnE P w K mg base 6 (He.ga K "partings_of") ["choice"] [] (sp_partings_of K)) (F_with_two : FnE P w K mg base 7 (He.ga K "with_two") ["listed", "one", "other"] [] (sp_with_two K)) : FnE P w K mg base 8 (He.ga K "laid_lists") ["heap", "names"] [] (sp_laid_lists K) := by
  refine fne T.f_laid_lists sc_laid_lists (fun _ _ _ _ h => h.1) (fun _ _ _ _ _ _ us hl => match us, hl with | [_, _], _ => rfl) fun cdv A outer s H vs Q E hr hsp => ?_
  have nd := sc_laid_lists.nd
  refine ⟨_, (pss_cons (pset 2 nd pe_dnewT)
      (pss_cons (ps_for PassesOwn.never rfl (pi_list (pcall F_choices_of (hr.mono (by decide)) T.g_choices_of (pa_cons (pv 1) pa_nil)) : PI _ _ _ (iList K _)) (pgn 3 nd) (pss_cons (pset 4 nd (pe_lst pa_nil))
      (pss_cons (ps_if (pt_cmpR op_eq (pe_callB (r := rLenQ K) cLenQ (by rfl) T.z_len (by decide +kernel) (pa_cons (pv 3) pa_nil)) pe_int (nomark _)) (pss_one (pset 4 nd (pe_lst (pa_cons (pmake T.k_Laid F_Laid_init (hr.mono (by decide)) T.g_Laid (pa_cons (pe_tup (pa_cons pe_str (pa_cons (pe_ix (r := rIxT K) ix_tup (pv 3) pe_int (fun _ _ => rfl)) (pa_cons (pe_ix (r := rIxT K) ix_tup (pgr T.g_ORDERS) pe_int (fun _ _ => rfl)) pa_nil)))) (pa_cons (pmeth0 (pmeth0 (pmeth (pv 0) T.c_Heap T.m_Heap_parcel F_Heap_parcel (hr.mono (by decide)) (pa_cons (pe_ix (r := rIxT K) ix_tup (pv 3) pe_int (fun _ _ => rfl)) pa_nil)) T.c_Parcel T.m_Parcel_sides F_Parcel_sides (hr.mono (by decide))) T.c_Sides T.m_Sides_told F_Sides_told (hr.mono (by decide))) pa_nil))) pa_nil)))) pss_nil)
      (pss_cons (ps_for PassesOwn.never rfl (pi_list (pcall F_partings_of (hr.mono (by decide)) T.g_partings_of (pa_cons (pv 3) pa_nil)) : PI _ _ _ (iList K _)) (pg_tup rfl (pgs_cons (pgn 5 nd) (pgs_cons (pgn 6 nd) pgs_nil)) : PG _ _ (gTup K _ _)) (pss_one (ps_for PassesOwn.never rfl (pi_list (pe_dget (hu_of hr) (pv 2) (pv 5) (fun _ _ => rfl)) : PI _ _ _ (iList K _)) (pgn 7 nd) (pss_one (ps_for PassesOwn.never rfl (pi_list (pe_dget (hu_of hr) (pv 2) (pv 6) (fun _ _ => rfl)) : PI _ _ _ (iList K _)) (pgn 8 nd) (pss_one (pset 4 nd (pcall F_with_two (hr.mono (by decide)) T.g_with_two (pa_cons (pv 4) (pa_cons (pv 7) (pa_cons (pv 8) pa_nil)))))))))))
      (pss_one (ps_dput (hu_of hr) (pv 2) (pv 3) (pv 4) rfl))))))
      (pss_one (ps_ret (pv 2))))), ?_⟩
  replace hsp := hsp.2
  obtain ⟨G, a, dx, l, t, rs, ps, ns, rfl, s0, hh, hps, ht, l4, hn, hm, q⟩ := hsp
  intro d nd0
  have e0 := Ex.new (o := .dT []) nd0
  have g0 : Gr none G H G (upd H d (.dT [])) := (Gr.start s0).mut nd0 (back s0 nd0)
  refine ⟨_, rfl, rfl, G, t, ns, rfl, g0.s, ht, l4, fun cl crs Gc Hc gc hcl hcr => ?_⟩
  have gd := gc.out (back s0 nd0) upd_same
  refine ⟨cl, rfl, ⟨_, sq_of (gc.s _ _ hcl)⟩, forE (walk_list (xs := crs.map V.ref)) (fun i σ H' => ∃ G' o3 o4 o5 o6 o7 o8 kvs, σ = [some (.ref a), some (.ref t), some (.ref d), o3, o4, o5, o6, o7, o8] ∧ Gr none G H G' H' ∧ Ex Gc G' ∧ G' d = none ∧ H' d = some (.dT kvs) ∧ TblAt K G' kvs (listsU (sidesOf ps) ((choicesM ns).take i)))
    ⟨Gc, none, none, none, none, none, none, [], rfl, g0.step gc, Ex.refl _, gd, gc.e _ _ upd_same, .nil⟩ (fun i σ H' _ pv => ?_) (fun i z σ H2 H3 N hi pv hy k1 => ?_) fun σ H' pv => ?_⟩
  · obtain ⟨G', _, _, _, _, _, _, _, _, g, e, _⟩ := pv
    exact sq_of (g.s _ _ (e _ _ hcl))
  · obtain ⟨G1, o3, o4, o5, o6, o7, o8, kvs, rfl, g1, e1, gd1, hd1, ht1⟩ := pv
    obtain ⟨rfl, hy⟩ := hy
    rw [List.getElem?_map] at hy
    obtain ⟨ca, hca, rfl⟩ := Option.map_eq_some_iff.mp hy
    obtain ⟨c, hc, tc⟩ := pr_at (hcr.ex e1) hca
    have hcm := List.mem_of_getElem? hc
    have cne := (mem_choices.mp hcm).2
    have csub := (mem_choices.mp hcm).1
    have tcH : H3 ca = some (.tup (c.map V.str)) := g1.s _ _ tc
    refine ⟨szl (by simp), fun l1 nl1 => ?_⟩
    refine ⟨_, rfl, ca, _, rfl, .inr (st_of (upk tcH nl1)), rfl, _, rfl, ?_⟩
    have take1 := take_snoc hc
    have keys : (listsU (sidesOf ps) ((choicesM ns).take i)).map (·.1) = (choicesM ns).take i := listsU_keys _ _
    have okc : ∀ e ∈ (choicesM ns).take i, e.Nodup ∧ (1 ≤ e.length ∧ e.length ≤ 4) ∧ ∀ n ∈ e, n ∈ ns := fun e he => by
      have h1 := mem_choices.mp (List.mem_of_mem_take he)
      exact ⟨h1.1.nodup hn, ⟨List.length_pos_iff.mpr h1.2, Nat.le_trans h1.1.length_le l4⟩, fun n hn => h1.1.subset hn⟩
    have s3 : ∀ n ∈ ns, (sidesOf ps n).length = 3 := fun n hn => by
      obtain ⟨p, hp, _⟩ := of_name (hm n hn)
      obtain ⟨r, _, _, _, _, _, _, _, ok⟩ := pr_at2 hps hp
      unfold sidesOf
      rw [hp]
      exact ok.len
    have hsz : SzT (listsU (sidesOf ps) ((choicesM ns).take i)) := listsU_sz _ _ rfl fun e he => ⟨(okc e he).1, (okc e he).2.1⟩
    have hok : TbOk (sidesOf ps) (listsU (sidesOf ps) ((choicesM ns).take i)) := listsU_ok _ _ rfl fun e he => ⟨(okc e he).1, fun n hn => s3 n ((okc e he).2.2 n hn)⟩
    have hpt : ∀ pr ∈ partingsM c, pr.1 ∈ (listsU (sidesOf ps) ((choicesM ns).take i)).map (·.1) ∧ pr.2 ∈ (listsU (sidesOf ps) ((choicesM ns).take i)).map (·.1) := fun pr hpr => by
      rw [keys]
      exact part_before hn hc hpr
    have hnew : c ∉ (listsU (sidesOf ps) ((choicesM ns).take i)).map (·.1) := by
      rw [keys]
      exact not_before (choices_nodup hn) hc
    have tl : (listsU (sidesOf ps) ((choicesM ns).take i)).length ≤ 1000 := by
      have z1 := congrArg List.length keys
      rw [List.length_map] at z1
      have z2 := List.length_take_le' i (choicesM ns)
      have z3 : (choicesM ns).length ≤ ns.length * 16 := flat_len (fun m => chosenM ns (m + 1)) 16 (fun m => chosenM_len4 l4 (m + 1)) ns.length
      omega
    have c1 : 1 ≤ c.length := List.length_pos_iff.mpr cne
    have c4 : c.length ≤ 4 := Nat.le_trans csub.length_le l4
    have tail : ∀ (G4 H4 : Hp) (l2 : Addr) (p5 p6 p7 p8 : Option V), Gr none G H G4 H4 → Ex G1 G4 → G4 d = none → H4 d = some (.dT kvs) → LdsL K G4 l2 (firstM (sidesOf ps) c) → _ := fun G4 H4 l2 p5 p6 p7 p8 g4 e4 gd4 hd4 h2 =>
      laid_tail (K := K) (sides := sidesOf ps) (D := { nx := N, rt := Q, bk := tRet (tVar 2) { nx := fun x H' => Q V.non H', rt := Q }, ct := N }) (va := some (.ref a)) (vt := some (.ref t)) (o5 := p5) (o6 := p6) (o7 := p7) (o8 := p8) g4 nd0 gd4 hd4 (ht1.ex e4) (e4 _ _ tc) h2 (csub.nodup hn) c1 c4 hsz hok hpt hnew tl (firstM_len _ _) fun G5 H5 l3 q5 q6 q7 q8 g5 e5 gd5 hd5 h5 => k1 _ _ ⟨G5, _, _, _, _, _, _, _, rfl, g5, (e1.trans e4).trans e5, gd5, hd5, by
        rw [take1, listsU_snoc]
        exact pr_app ((ht1.ex e4).ex e5) (.cons ⟨rfl, l3, rfl, h5⟩ .nil)⟩
    have gn := g1.new (o := .lst []) nl1
    have gdn := upn (x := .lst []) gd1 hd1 nl1
    have hdn := upk (x := .lst []) hd1 nl1
    have en := Ex.new (o := .lst []) (back g1.s nl1)
    by_cases one : c.length = 1
    · obtain ⟨n, rfl⟩ : ∃ n, c = [n] := by
        match c, one with
        | [n], _ => exact ⟨n, rfl⟩
      have nm : n ∈ ps.map (·.name) := hm n (csub.subset (List.mem_singleton.mpr rfl))
      obtain ⟨p, hp, _⟩ := of_name nm
      obtain ⟨r, hr1, dp, sa, ma, p1, p2, p3, ok⟩ := pr_at2 hps hp
      obtain ⟨dxs, ts, t1, t2, t3⟩ := id p2
      obtain ⟨as, hO, hP⟩ := orders_of T
      obtain ⟨oa, as', rfl, hor⟩ : ∃ oa as', as = oa :: as' ∧ OrdAt K oa [0, 1, 2] := by
        cases hP with
        | cons h t => exact ⟨_, _, rfl, h⟩
      have up : Ex G (upd H3 l1 (.lst [])) := (g1.g.trans g1.s).trans (Ex.new nl1)
      refine iteT (by simp) ⟨_, rfl, ca, _, 0, _, rfl, rfl, st_of (upk tcH nl1), rfl, _, _, 0, _, rfl, rfl, hO _, atI_nat (j := 0) rfl, szl (by simp), fun rr nr => ?_⟩
      have gr := gn.new (o := .tup [.str "one", .str n, .ref oa]) nr
      have er := Ex.new (o := .tup [.str "one", .str n, .ref oa]) (back gn.s nr)
      have hhr := (hh.ex gr.e)
      refine ⟨_, rfl, a, dx, _, rfl, hhr.at_, rfl, _, rfl, ca, _, 0, _, rfl, rfl, st_of (upk (upk tcH nl1) nr), rfl, rfl, a, dx, l, rs, ps, n, r, rfl, hhr, nm, hr1, fun H6 e6 => ?_⟩
      have u6 : Ex G H6 := (up.trans (Ex.new nr)).trans e6
      refine ⟨r, dp, _, rfl, u6 _ _ p1, rfl, rfl, r, dp, sa, ma, p, rfl, u6 _ _ p1, sa, dxs, _, rfl, u6 _ _ t1, rfl, rfl, sa, dxs, ts, rfl, u6 _ _ t1, ?_⟩
      have g6 := gr.exH e6
      have e3 : Ex G _ := (g1.g.trans en).trans er
      have dv : Dp K (upd (upd G1 l1 (.lst [])) rr (.tup [.str "one", .str n, .ref oa])) (.ref rr) (papD (.one n [0, 1, 2])) := .tup (st_of upd_same) (.cons (.str _) (.cons (.str _) (.cons (.tup (hor.2 _) (dp_nats [0, 1, 2])) .nil)))
      have esd : p.three = sidesOf ps n := by
        unfold sidesOf
        rw [hp] <;> rfl
      refine mkLaid g6.s dv (e3 _ _ t2) t3 fun x7 G7 H7 g7 hx7 => ⟨szl (by simp), fun l2 nl2 => ?_⟩
      have g8 := g6.step g7
      have gd6 : (upd (upd G1 l1 (.lst [])) rr (.tup [.str "one", .str n, .ref oa])) d = none := upn gdn hdn nr
      have hd6 : H6 d = some (.dT kvs) := e6 _ _ (upk hdn nr)
      have e8 := Ex.new (o := .lst [.ref x7]) (back g8.s nl2)
      refine tail _ _ l2 _ _ _ _ (g8.new nl2) (((en.trans er).trans g7.g).trans e8) (upn (g7.out gd6 hd6) (g7.e _ _ hd6) nl2) (upk (g7.e _ _ hd6) nl2) ⟨[x7], upd_same, .cons ?_ .nil⟩
      rw [esd] at hx7
      exact hx7.ex e8
    · refine iteF (by simp; omega) (tail _ _ l1 _ _ _ _ gn en gdn hdn ⟨[], upd_same, ?_⟩)
      have : firstM (sidesOf ps) c = [] := by
        unfold firstM
        split
        · exact absurd rfl one
        · rfl
      rw [this]
      exact .nil
  · obtain ⟨G1, o3, o4, o5, o6, o7, o8, kvs, rfl, g1, e1, gd1, hd1, ht1⟩ := pv
    have lc : (crs.map V.ref).length = (choicesM ns).length := by rw [List.length_map, hcr.length]
    rw [lc, List.take_length] at ht1
    exact ⟨_, rfl, q d kvs G1 H' g1 nd0 gd1 hd1 ht1⟩
end BX
/-! the walks: what is told -/
namespace BX
open PySem PySem.Spec PyProof.Rows L2
abbrev Pt : Type := List (List Str × List Pap)
def papT (tbl : Tb) : Pt := tbl.map fun cl => (cl.1, cl.2.map (·.1))
/-- the told dict's pairs: new lists of data, left out of what stands -/
def PapT (K : PySem.W.Frag) (H0 G H : Hp) (kvs : List (List L2.Key × V)) (pt : Pt) : Prop := Paired (fun kv cp => kv.1 = keyM cp.1 ∧ ∃ l vs, kv.2 = .ref l ∧ H0 l = none ∧ G l = none ∧ H l = some (.lst vs) ∧ DpAll K G vs (cp.2.map papD)) kvs pt
theorem PapT.step {K : PySem.W.Frag} {H0 G H G' H' : Hp} {kvs : List (List L2.Key × V)} {pt : Pt} (h : PapT K H0 G H kvs pt) (e : Ex G G') (k : ∀ l vs, H0 l = none → G l = none → H l = some (.lst vs) → G' l = none ∧ H' l = some (.lst vs)) : PapT K H0 G' H' kvs pt :=
  Paired.mapP h fun _ _ ⟨h1, l, vs, h2, h3, h4, h5, h6⟩ => ⟨h1, l, vs, h2, h3, (k l vs h3 h4 h5).1, (k l vs h3 h4 h5).2, DpAll.ex h6 e⟩
theorem PapT.keys {K : PySem.W.Frag} {H0 G H : Hp} : ∀ {kvs : List (List L2.Key × V)} {pt : Pt}, PapT K H0 G H kvs pt → kvs.map (·.1) = pt.map fun p => keyM p.1
  | _, _, .nil => rfl
  | _, _, .cons ⟨h, _⟩ t => by
    rw [List.map_cons, List.map_cons, h, PapT.keys t]
theorem val_no {kvs : List (List L2.Key × V)} {k : List L2.Key} (h : k ∉ kvs.map (·.1)) : valV kvs k = none := by
  induction kvs with
  | nil => rfl
  | cons p r ih => rw [valV_neg (fun e => h (by rw [← e]; exact List.mem_cons_self ..)), ih fun z => h (List.mem_cons_of_mem _ z)]
theorem Gr.unlock {d : Addr} {u : HO} {G H G' H' : Hp} (a : Gr (some d) G H G' H') (hd : H d = some u) (gd : G' d = none) : Gr none G H G' (upd H' d u) := by
  refine ⟨a.g, fun x o _ e => ?_, fun x o e => ?_, a.n⟩
  · by_cases z : x = d
    · rw [z, upd_same, ← hd, ← z, e]
    · rw [upd_ne z]
      exact a.h x o (fun q => z (Option.some.inj q).symm) e
  · have z : x ≠ d := fun z => by
      rw [z, gd] at e
      cases e
    rw [upd_ne z]
    exact a.s x o e
/-- the papers of told ones -/
theorem lds_papers {K : PySem.W.Frag} {G : Hp} : ∀ {rs : List Addr} {ls : List Ld}, LdsAt K G rs ls → ∃ vs : List V, vs.length = rs.length ∧ DpAll K G vs ((ls.map (·.1)).map papD) ∧ ∀ (j : Nat) (r : Addr), rs[j]? = some r → ∃ v dx t f, vs[j]? = some v ∧ G r = some (.ins (cL K) dx (fldL v t f))
  | _, _, .nil => ⟨[], rfl, .nil, fun j r h => by simp at h⟩
  | r :: rs, x :: ls, .cons ⟨dx, v, t, f, h1, h2, _⟩ tl => by
    obtain ⟨vs, l1, l2, l3⟩ := lds_papers tl
    refine ⟨v :: vs, congrArg Nat.succ l1, .cons h2 l2, fun j r' h => ?_⟩
    cases j with
    | zero =>
      cases h
      exact ⟨v, dx, t, f, rfl, h1⟩
    | succ j => exact l3 j r' h
theorem fm_get (vs : List V) : (List.range vs.length).filterMap (fun i => vs[i]?) = vs := by
  have z := fm_map (fun v : V => v) vs
  rw [List.map_id'] at z
  have e : (fun i : Nat => vs[i]?) = fun i : Nat => (vs[i]?).map fun v => v := by
    funext i
    cases vs[i]? <;> rfl
  rw [e]
  exact z
def sp_papers_of (K : PySem.W.Frag) : Sp := spN 1 fun vs H Q _ => ∃ (G : Hp) (d : Addr) (kvs : List (List L2.Key × V)) (tbl : Tb), vs = [.ref d] ∧ Ex G H ∧ G d = none ∧ H d = some (.dT kvs) ∧ TblAt K G kvs tbl ∧ (tbl.map (·.1)).Nodup ∧ tbl.length ≤ 1000 ∧ (∀ cl ∈ tbl, cl.2.length ≤ 200000) ∧
  ∀ f kv2 G' H', Gr none G H G' H' → H f = none → G' f = none → H' f = some (.dT kv2) → PapT K H G' H' kv2 (papT tbl) → Q (.ref f) H'
abbrev N_papers_of : List Str := ["lists", "found", "choice", "listed", "laid"]
theorem sc_papers_of : FnScope N_papers_of ["lists"] (defScope s_papers_of) := ⟨rfl, rfl, rfl, by decide +kernel, rfl, by decide +kernel, by decide +kernel⟩
theorem w_papers_of {P : Program} {w : World} {K : PySem.W.Frag} {mg : Str → Option Value} {base : Heap} (T : Tp K mg)  : FnE P w K mg base 1 (He.ga K "papers_of") ["lists"] [] (sp_papers_of K) := by
  refine fne T.f_papers_of sc_papers_of (fun _ _ _ _ h => h.1) (fun _ _ _ _ _ _ us hl => match us, hl with | [_], _ => rfl) fun cdv A outer s H vs Q E hr hsp => ?_
  have nd := sc_papers_of.nd
  refine ⟨_, (pss_cons (pset 1 nd pe_dnewT)
      (pss_cons (ps_lock (ps_for PassesOwn.never rfl (pi_itemsT (pv 0)) (pg_tup rfl (pgs_cons (pgn 2 nd) (pgs_cons (pgn 3 nd) pgs_nil)) : PG _ _ (gTup K _ _)) (pss_one (ps_dput (hu_of hr) (pv 1) (pv 2) (pe_lc (own := [("laid", 4)]) (g := gName 4) rfl nd (pi_list (pv 3) : PI _ _ _ (iList K _)) (blkOk_by (N := N_papers_of) (sc := defScope s_papers_of) (by decide +kernel)) (fun _ _ _ _ _ => (pgn 4 nd)) (fun _ _ _ _ _ => pts_nil) (fun _ _ _ _ _ => (pe_fld (pv 4) rfl : PE _ _ (tFld K _ _)))) rfl))))
      (pss_one (ps_ret (pv 1))))), ?_⟩
  replace hsp := hsp.2
  obtain ⟨G, d, kvs, tbl, rfl, s0, gd0, hd0, ht, hnk, tl, ts, q⟩ := hsp
  intro f nf
  have df : d ≠ f := ne_of_none hd0 nf
  refine ⟨d, .dT kvs, upk hd0 nf, trivial, fun od => ⟨_, rfl, d, od, kvs, rfl, upd_same, ?_⟩⟩
  have g0 : Gr (some d) G H G (upd (upd H f (.dT [])) d (.frz od (.dT kvs))) := ((Gr.start s0).mut nf (back s0 nf)).chm gd0
  refine forE walk_itemsT (fun i σ H' => ∃ o2 o3 o4 G' kv2, σ = [some (.ref d), some (.ref f), o2, o3, o4] ∧ Gr (some d) G H G' H' ∧ G' d = none ∧ H' d = some (.frz od (.dT kvs)) ∧ G' f = none ∧ H' f = some (.dT kv2) ∧ PapT K H G' H' kv2 ((papT tbl).take i))
    ⟨none, none, none, G, [], rfl, g0, gd0, upd_same, back s0 nf, by rw [upd_ne df.symm]; exact upd_same, .nil⟩ (fun i σ H' _ pv => ?_) (fun i z σ H2 H3 N hi pv hy k1 => ?_) fun σ H' pv => ?_
  · obtain ⟨_, _, _, _, _, _, _, _, h, _⟩ := pv
    exact h
  · obtain ⟨o2, o3, o4, G1, kv2, rfl, g1, gd1, hd1, gf1, hf1, hp1⟩ := pv
    obtain ⟨T0, k, v, qa, hkv, rfl, nT, hq, rfl⟩ := hy
    obtain ⟨⟨c, ls⟩, hcl, ek, l, ev, lrs, hl1, hl2⟩ := pr_at (ht.ex g1.g) hkv
    cases ek
    cases ev
    have hm : ∀ x, some d = some x → H2 x ≠ none := fun x hx => by
      cases hx
      rw [hd1]
      exact fun z => nomatch z
    have g2 := g1.exH (Ex.new (o := .tup [.ref qa, .ref l]) nT)
    have hl3 : upd H2 T0 (.tup [.ref qa, .ref l]) l = some (.lst (lrs.map V.ref)) := g2.s _ _ hl1
    obtain ⟨vs, v1, v2, v3⟩ := lds_papers hl2
    refine ⟨T0, _, rfl, st_of upd_same, rfl, _, _, rfl, _, _, rfl, rfl, ?_⟩
    refine ⟨_, rfl, l, rfl, ⟨_, sq_of hl3⟩, fun D nD => lcE (walk_list (xs := lrs.map V.ref)) (fun j => vs[j]?) nD (sz_lt (by rw [List.length_map, hl2.length]; have := ts _ (List.mem_of_getElem? hcl); omega)) (fun H4 e4 => sq_of (e4 _ _ hl3)) (fun j v H4 H5 R S hj e4 hy4 kk1 kk2 => ?_) fun H4 e4 hD4 => ?_⟩
    · obtain ⟨rfl, hy4⟩ := hy4
      rw [List.getElem?_map] at hy4
      obtain ⟨r, hr1, rfl⟩ := Option.map_eq_some_iff.mp hy4
      obtain ⟨v, dx, t, fa, w1, w2⟩ := v3 j r hr1
      exact ⟨rfl, yes (iteT rfl ⟨_, rfl, r, _, dx, _, _, rfl, e4 _ _ (g2.s _ _ w2), T.c_Laid, T.n_Laid_paper, rfl, kk1 _ _ (Ex.refl _) w1⟩)⟩
    · have hD5 : H4 D = some (.lst vs) := by
        rw [hD4, List.length_map, ← v1, fm_get]
      have g4 := g2.exH e4
      have hd4 : H4 d = _ := e4 _ _ (upk hd1 nT)
      have hf4 : H4 f = _ := e4 _ _ (upk hf1 nT)
      have nDH : H D = none := g2.free nD fun x hx => by
        cases hx
        rw [upk hd1 nT]
        exact fun z => nomatch z
      have gD : G1 D = none := back g2.s nD
      have lk := PapT.keys hp1
      have hcn : valV kv2 (keyM c) = none := by
        refine val_no ?_
        rw [lk]
        intro hmem
        obtain ⟨p, hpm, epk⟩ := List.mem_map.mp hmem
        have e1 : p.1 = c := key_inj epk
        have z : c ∈ ((papT tbl).map (·.1)).take i := by
          rw [← List.map_take, ← e1]
          exact List.mem_map_of_mem hpm
        have e2 : (papT tbl).map (·.1) = tbl.map (·.1) := by
          unfold papT
          rw [List.map_map] <;> rfl
        rw [e2] at z
        exact not_before hnk (by rw [List.getElem?_map, hcl] <;> rfl) z
      have pu := DPut.t (v := .ref D) hf4 (k := keyM c) (b := qa) (e4 _ _ (upk hq nT)) (sz_lt (by
        have z1 := congrArg List.length lk
        rw [List.length_map, List.length_map] at z1
        have z2 := List.length_take_le' i (papT tbl)
        have z3 : (papT tbl).length = tbl.length := List.length_map _
        omega))
      rw [putK_new _ hcn] at pu
      have fd : f ≠ d := df.symm
      have df4 : D ≠ f := ne_of hD5 hf4 (fun z => nomatch z)
      refine ⟨_, rfl, _, rfl, f, _, rfl, pu, k1 _ _ ⟨_, _, _, G1, _, rfl, g4.mut nf gf1, gd1, by rw [upd_ne df]; exact hd4, gf1, upd_same, ?_⟩⟩
      have ti : (papT tbl).take (i + 1) = (papT tbl).take i ++ [(c, ls.map (·.1))] := by
        refine take_snoc ?_
        unfold papT
        rw [List.getElem?_map, hcl] <;> rfl
      rw [ti]
      refine pr_app (PapT.step hp1 (Ex.refl _) fun l' vs' h1 h2 h3 => ⟨h2, ?_⟩) (.cons ⟨rfl, D, vs, rfl, nDH, gD, by rw [upd_ne df4]; exact hD5, v2⟩ .nil)
      rw [upd_ne (ne_of h3 hf1 (fun z => nomatch z))]
      exact e4 _ _ (upk h3 nT)
  · obtain ⟨o2, o3, o4, G1, kv2, rfl, g1, gd1, hd1, gf1, hf1, hp1⟩ := pv
    have lk : kvs.length = (papT tbl).length := by
      rw [ht.length]
      unfold papT
      rw [List.length_map]
    rw [lk, List.take_length] at hp1
    refine ⟨hd1, _, rfl, q f kv2 G1 _ (g1.unlock hd0 gd1) nf gf1 (by rw [upd_ne df.symm]; exact hf1) (PapT.step hp1 (Ex.refl _) fun l' vs' h1 h2 h3 => ⟨h2, ?_⟩)⟩
    rw [upd_ne (ne_of h3 hd1 (fun z => nomatch z))]
    exact h3
def sp_lists_of (K : PySem.W.Frag) : Sp := spN 2 fun vs H Q _ => ∃ (G : Hp) (a dx l t : Addr) (rs : List Addr) (ps : List Pcl) (ns : List Str), vs = [.ref a, .ref t] ∧ Ex G H ∧ HeapIn K H a dx l rs ps ∧ PsAt K G rs ps ∧ SeqAt G t (ns.map V.str) ∧ 1 ≤ ns.length ∧ ns.length ≤ 4 ∧ ns.Nodup ∧ (∀ n ∈ ns, n ∈ ps.map (·.name)) ∧ (ns.map (longM ps)).sum ≤ 100000 ∧
  ∀ f kv2 G' H', Gr none G H G' H' → H f = none → G' f = none → H' f = some (.dT kv2) → PapT K H G' H' kv2 (papT (listsM (sidesOf ps) ns)) → Q (.ref f) H'
theorem lists_len {sides : Str → List Int} {ns : List Str} (h : ns.length ≤ 4) : (listsM sides ns).length ≤ 1000 := by
  have z1 := congrArg List.length (listsU_keys sides (choicesM ns))
  rw [List.length_map] at z1
  have z3 : (choicesM ns).length ≤ ns.length * 16 := flat_len (fun m => chosenM ns (m + 1)) 16 (fun m => chosenM_len4 h (m + 1)) ns.length
  unfold listsM
  omega
theorem getM_mem {tbl : Tb} (hn : (tbl.map (·.1)).Nodup) {cl : List Str × List Ld} (h : cl ∈ tbl) : getM tbl cl.1 = cl.2 := by
  induction tbl with
  | nil => cases h
  | cons p r ih =>
    obtain ⟨d, l⟩ := p
    rw [getM_cons]
    rcases List.mem_cons.mp h with e | e
    · rw [e, if_pos rfl]
    · obtain ⟨n1, n2⟩ := List.nodup_cons.mp hn
      have ne : ¬ d = cl.1 := fun z => n1 (List.mem_map.mpr ⟨cl, e, z.symm⟩)
      rw [if_neg ne, ih n2 e]
theorem lists_ok {ns : List Str} (hn : ns.Nodup) (h4 : ns.length ≤ 4) (sides : Str → List Int) : ((listsM sides ns).map (·.1)).Nodup ∧ SzT (listsM sides ns) ∧ ∀ cl ∈ listsM sides ns, cl.2.length ≤ 200000 := by
  have kn : ((listsM sides ns).map (·.1)).Nodup := by
    unfold listsM
    rw [listsU_keys]
    exact choices_nodup hn
  have sz : SzT (listsM sides ns) := listsU_sz _ _ rfl fun e he => by
    have h1 := mem_choices.mp he
    exact ⟨h1.1.nodup hn, List.length_pos_iff.mpr h1.2, Nat.le_trans h1.1.length_le h4⟩
  refine ⟨kn, sz, fun cl hcl => ?_⟩
  have z := sz cl.1
  rw [getM_mem kn hcl] at z
  have := bnd_le cl.1.length
  omega
abbrev N_lists_of : List Str := ["heap", "names"]
theorem sc_lists_of : FnScope N_lists_of ["heap", "names"] (defScope s_lists_of) := ⟨rfl, rfl, rfl, by decide +kernel, rfl, by decide +kernel, by decide +kernel⟩
theorem w_lists_of {P : Program} {w : World} {K : PySem.W.Frag} {mg : Str → Option Value} {base : Heap} (T : Tp K mg) (F_laid_lists : FnE P w K mg base 8 (He.ga K "laid_lists") ["heap", "names"] [] (sp_laid_lists K)) (F_need_names : FnE P w K mg base 4 (He.ga K "need_names") ["heap", "names"] [] (sp_need_names K)) (F_papers_of : FnE P w K mg base 1 (He.ga K "papers_of") ["lists"] [] (sp_papers_of K)) : FnE P w K mg base 9 (He.ga K "lists_of") ["heap", "names"] [] (sp_lists_of K) := by
  refine fne T.f_lists_of sc_lists_of (fun _ _ _ _ h => h.1) (fun _ _ _ _ _ _ us hl => match us, hl with | [_, _], _ => rfl) fun cdv A outer s H vs Q E hr hsp => ?_
  have nd := sc_lists_of.nd
  refine ⟨_, (pss_cons (ps_expr (pcall F_need_names (hr.mono (by decide)) T.g_need_names (pa_cons (pv 0) (pa_cons (pv 1) pa_nil))))
      (pss_one (ps_ret (pcall F_papers_of (hr.mono (by decide)) T.g_papers_of (pa_cons (pcall F_laid_lists (hr.mono (by decide)) T.g_laid_lists (pa_cons (pv 0) (pa_cons (pv 1) pa_nil))) pa_nil))))), ?_⟩
  replace hsp := hsp.2
  obtain ⟨G, a, dx, l, t, rs, ps, ns, rfl, s0, hh, hps, ht, l1, l4, hn, hm, hs, q⟩ := hsp
  refine ⟨_, rfl, _, rfl, rfl, a, dx, l, t, rs, ps, ns, rfl, hh, ht.ex s0, l1, l4, hn, hm, hs, fun H1 e1 => ?_⟩
  refine ⟨_, rfl, _, rfl, rfl, G, a, dx, l, t, rs, ps, ns, rfl, s0.trans e1, hh.ex e1, hps, ht, l4, hn, hm, fun d kvs G2 H2 g2 nd2 gd2 hd2 ht2 => ?_⟩
  obtain ⟨k1, k2, k3⟩ := lists_ok hn l4 (sidesOf ps)
  have gA : Gr none G H G2 H2 := ((Gr.start s0).exH e1).step g2
  refine ⟨rfl, G2, d, kvs, _, rfl, g2.s, gd2, hd2, ht2, k1, lists_len l4, k3, fun f kv2 G3 H3 g3 nf gf hf hp => q f kv2 G3 H3 (gA.step g3) (back gA.e nf) gf hf ?_⟩
  exact Paired.mapP hp fun _ _ ⟨h1, l, vs, h2, h3, h4⟩ => ⟨h1, l, vs, h2, back gA.e h3, h4⟩
end BX
/-! the walks: the law's draws -/
namespace BX
open PySem PySem.Spec PyProof.Rows L2
def PurseO (n : Nat) (o : HO) : Prop := ∃ a b c : Int, o = .lst [.int a, .int b, .int c] ∧ 0 ≤ a ∧ 0 ≤ b ∧ b < 2147483587 ∧ 0 ≤ c ∧ c ≤ (n : Nat)
def PurseAt (H : Hp) (pp : Addr) (n : Nat) : Prop := ∃ o, H pp = some o ∧ PurseO n o
/-- the purse and what stands -/
structure Pu (pp : Addr) (n : Nat) (G0 H0 G H : Hp) : Prop where
  gr : Gr (some pp) G0 H0 G H
  pg : G pp = none
  ph : PurseAt H pp n
section
variable {pp : Addr} {n : Nat} {G0 H0 G H : Hp}
theorem Pu.hm (a : Pu pp n G0 H0 G H) : ∀ x, some pp = some x → H x ≠ none := fun x hx => by
  cases hx
  obtain ⟨o, ho, _⟩ := a.ph
  rw [ho]
  exact fun z => nomatch z
theorem Pu.le {n' : Nat} (a : Pu pp n G0 H0 G H) (h : n ≤ n') : Pu pp n' G0 H0 G H := by
  obtain ⟨o, ho, x, b, c, h1, h2, h3, h4, h5, h6⟩ := a.ph
  exact ⟨a.gr, a.pg, o, ho, x, b, c, h1, h2, h3, h4, h5, by omega⟩
theorem Pu.start (s : Ex G H) (pg : G pp = none) (ph : PurseAt H pp n) : Pu pp n G H G H := ⟨Gr.refl s, pg, ph⟩
/-- a draw -/
theorem Pu.draw {o : HO} {n' : Nat} (a : Pu pp n G0 H0 G H) (h : PurseO n' o) : Pu pp n' G0 H0 G (upd H pp o) := ⟨a.gr.chm a.pg, a.pg, o, upd_same, h⟩
theorem Pu.pure {G' H' : Hp} (a : Pu pp n G0 H0 G H) (b : Gr none G H G' H') : Pu pp n G0 H0 G' H' := by
  obtain ⟨o, ho, h⟩ := a.ph
  exact ⟨a.gr.step b fun x hx => by
    cases hx
    exact ⟨a.pg, o, ho⟩, b.out a.pg ho, o, b.e _ _ ho, h⟩
theorem Pu.exH {H' : Hp} (a : Pu pp n G0 H0 G H) (e : Ex H H') : Pu pp n G0 H0 G H' := a.pure ((Gr.start a.gr.s).exH e)
theorem Pu.new {p : Addr} {o : HO} (a : Pu pp n G0 H0 G H) (h : H p = none) : Pu pp n G0 H0 (upd G p o) (upd H p o) := a.pure ((Gr.start (m := none) a.gr.s).new h)
theorem Pu.free {p : Addr} (a : Pu pp n G0 H0 G H) (h : H p = none) : H0 p = none := a.gr.free h a.hm
theorem Pu.ne {p : Addr} (a : Pu pp n G0 H0 G H) (h : H p = none) : p ≠ pp := fun z => by
  obtain ⟨o, ho, _⟩ := a.ph
  rw [z, ho] at h
  cases h
/-- something that was new, and is left out of what stands, is written -/
theorem Pu.put {p : Addr} {o : HO} (a : Pu pp n G0 H0 G H) (h0 : H0 p = none) (hg : G p = none) (hn : p ≠ pp) : Pu pp n G0 H0 G (upd H p o) := by
  obtain ⟨u, hu, h⟩ := a.ph
  exact ⟨a.gr.mut h0 hg, a.pg, u, by rw [upd_ne hn.symm]; exact hu, h⟩
theorem Pu.keep {p : Addr} {o : HO} (a : Pu pp n G0 H0 G H) (h0 : H0 p = none) (hg : G p = none) (hh : H p = some o) (hn : p ≠ pp) : Pu pp n G0 H0 (upd G p o) H := by
  obtain ⟨u, hu, h⟩ := a.ph
  exact ⟨a.gr.keep h0 hg hh, by rw [upd_ne hn.symm]; exact a.pg, u, hu, h⟩
theorem Pu.trans {n' : Nat} {G1 H1 : Hp} (a : Pu pp n G0 H0 G H) (b : Pu pp n' G H G1 H1) : Pu pp n' G0 H0 G1 H1 := by
  refine ⟨a.gr.trans b.gr fun x hx => ?_, b.pg, b.ph⟩
  cases hx
  refine ⟨?_, b.pg⟩
  cases z : G0 pp with
  | none => rfl
  | some u =>
    have := a.gr.g _ _ z
    rw [a.pg] at this
    cases this
/-- what was out of what stands, and is not the purse, stays -/
theorem Pu.hold {n' : Nat} {G1 H1 : Hp} {p : Addr} {o : HO} (b : Pu pp n' G H G1 H1) (hn : p ≠ pp) (h : H p = some o) : H1 p = some o := b.gr.h p o (fun z => hn (Option.some.inj z).symm) h
theorem Pu.out {n' : Nat} {G1 H1 : Hp} {p : Addr} {o : HO} (b : Pu pp n' G H G1 H1) (hg : G p = none) (h : H p = some o) : G1 p = none := b.gr.out hg h
end
def sp_law_cell (K : PySem.W.Frag) : Sp := spN 2 fun vs H Q _ => ∃ (a : Addr) (ns : List Int) (k : Nat), vs = [.ref a, .int (k : Nat)] ∧ SqL K H a (ns.map V.int) ∧ ∀ c : Int, Q (.int c) H
abbrev N_law_cell : List Str := ["_law_script", "_law_k"]
theorem sc_law_cell : FnScope N_law_cell ["_law_script", "_law_k"] (defScope s_law_cell) := ⟨rfl, rfl, rfl, by decide +kernel, rfl, by decide +kernel, by decide +kernel⟩
theorem w_law_cell {P : Program} {w : World} {K : PySem.W.Frag} {mg : Str → Option Value} {base : Heap} (T : Tp K mg)  : FnE P w K mg base 1 (He.ga K "_law_cell") ["_law_script", "_law_k"] [] (sp_law_cell K) := by
  refine fne T.f_law_cell sc_law_cell (fun _ _ _ _ h => h.1) (fun _ _ _ _ _ _ us hl => match us, hl with | [_, _], _ => rfl) fun cdv A outer s H vs Q E hr hsp => ?_
  have nd := sc_law_cell.nd
  refine ⟨_, (pss_cons (ps_if (pt_cmpR op_lt (pv 1) (pe_callB (r := rLenQ K) cLenQ (by rfl) T.z_len (by decide +kernel) (pa_cons (pv 0) pa_nil)) (nomark _)) (pss_one (ps_ret (pe_ix (r := rIxL K) ix_list (pv 0) (pv 1) (fun _ _ => rfl)))) pss_nil)
      (pss_one (ps_ret (pe_op op_add (pe_op op_mul pe_int (pv 1)) pe_int)))), ?_⟩
  replace hsp := hsp.2
  obtain ⟨a, ns, k, rfl, ha, q⟩ := hsp
  refine ⟨_, rfl, _, rfl, a, _, rfl, .inl ha, _, _, rfl, rfl, _, rfl, ?_⟩
  by_cases h : k < ns.length
  · exact iteT (by simp; exact h) ⟨_, rfl, _, rfl, a, _, _, _, rfl, rfl, ha, vi_get h, q _⟩
  · exact iteF (by simp; omega) ⟨_, rfl, _, _, rfl, rfl, .inl ⟨by decide, by decide⟩, _, _, rfl, rfl, q _⟩
def sp_law_purse (K : PySem.W.Frag) : Sp := spN 1 fun vs H Q _ => ∃ c : Int, vs = [.int c] ∧ ∀ pp o, H pp = none → PurseO 0 o → Q (.ref pp) (upd H pp o)
abbrev N_law_purse : List Str := ["_law_cell_here"]
theorem sc_law_purse : FnScope N_law_purse ["_law_cell_here"] (defScope s_law_purse) := ⟨rfl, rfl, rfl, by decide +kernel, rfl, by decide +kernel, by decide +kernel⟩
theorem w_law_purse {P : Program} {w : World} {K : PySem.W.Frag} {mg : Str → Option Value} {base : Heap} (T : Tp K mg)  : FnE P w K mg base 1 (He.ga K "_law_purse") ["_law_cell_here"] [] (sp_law_purse K) := by
  refine fne T.f_law_purse sc_law_purse (fun _ _ _ _ h => h.1) (fun _ _ _ _ _ _ us hl => match us, hl with | [_], _ => rfl) fun cdv A outer s H vs Q E hr hsp => ?_
  have nd := sc_law_purse.nd
  refine ⟨_, (pss_one (ps_ret (pe_lst (pa_cons (pe_callB (r := rMax2) (cMax2 rfl) (by rfl) T.z_max (by decide +kernel) (pa_cons pe_int (pa_cons (pe_op op_sub (pv 0) (pe_op op_pow pe_int pe_int)) pa_nil))) (pa_cons (pe_op op_mod (pv 0) pe_int) (pa_cons pe_int pa_nil)))))), ?_⟩
  replace hsp := hsp.2
  obtain ⟨c, rfl, q⟩ := hsp
  refine ⟨_, rfl, _, _, rfl, rfl, ⟨by decide, by decide, by decide⟩, _, _, rfl, rfl, _, _, rfl, _, rfl, _, _, rfl, rfl, (show (0 : Int) < 2147483587 by decide), szl (by simp), fun pp np => q pp _ np ⟨_, _, 0, rfl, ?_, Int.emod_nonneg _ (by decide), Int.emod_lt_of_pos _ (by decide), by decide, by decide⟩⟩
  split <;> omega
def sp_law_take (K : PySem.W.Frag) : Sp := spN 2 fun vs H Q _ => ∃ (pp : Addr) (m : Int) (n : Nat), vs = [.ref pp, .int m] ∧ 0 < m ∧ m < 1000000 ∧ PurseAt H pp n ∧ n ≤ 1000000 ∧ ∀ (d : Int) o, 0 ≤ d → d < m → PurseO (n + 1) o → Q (.int d) (upd H pp o)
abbrev N_law_take : List Str := ["_law_purse_here", "_law_many", "_law_digit", "_law_one", "_law_other"]
theorem sc_law_take : FnScope N_law_take ["_law_purse_here", "_law_many"] (defScope s_law_take) := ⟨rfl, rfl, rfl, by decide +kernel, rfl, by decide +kernel, by decide +kernel⟩
theorem w_law_take {P : Program} {w : World} {K : PySem.W.Frag} {mg : Str → Option Value} {base : Heap} (T : Tp K mg)  : FnE P w K mg base 1 (He.ga K "_law_take") ["_law_purse_here", "_law_many"] [] (sp_law_take K) := by
  refine fne T.f_law_take sc_law_take (fun _ _ _ _ h => h.1) (fun _ _ _ _ _ _ us hl => match us, hl with | [_, _], _ => rfl) fun cdv A outer s H vs Q E hr hsp => ?_
  have nd := sc_law_take.nd
  refine ⟨_, (pss_cons (ps_if (pt_cmpR op_gt (pe_ix (r := rIxL K) ix_list (pv 0) pe_int (fun _ _ => rfl)) pe_int (nomark _)) (pss_cons (pset 2 nd (pe_op op_mod (pe_ix (r := rIxL K) ix_list (pv 0) pe_int (fun _ _ => rfl)) (pv 1)))
      (pss_cons (ps_asg (pe_op op_fdiv (pe_ix (r := rIxL K) ix_list (pv 0) pe_int (fun _ _ => rfl)) (pv 1)) (pg_sub (pv 0) pe_int set_list))
      (pss_one (ps_ret (pv 2))))) pss_nil)
      (pss_cons (ps_asg (pe_op op_add (pe_ix (r := rIxL K) ix_list (pv 0) pe_int (fun _ _ => rfl)) pe_int) (pg_sub (pv 0) pe_int set_list))
      (pss_cons (pset 3 nd (pe_op op_mod (pe_op op_pow (pe_op op_add (pe_op op_add (pe_ix (r := rIxL K) ix_list (pv 0) pe_int (fun _ _ => rfl)) (pe_op op_mul pe_int (pe_ix (r := rIxL K) ix_list (pv 0) pe_int (fun _ _ => rfl)))) pe_int) pe_int) pe_int))
      (pss_cons (pset 4 nd (pe_op op_mod (pe_op op_pow (pe_op op_add (pe_op op_mul (pe_ix (r := rIxL K) ix_list (pv 0) pe_int (fun _ _ => rfl)) (pe_ix (r := rIxL K) ix_list (pv 0) pe_int (fun _ _ => rfl))) pe_int) pe_int) pe_int))
      (pss_one (ps_ret (pe_op op_mod (pe_op op_fdiv (pe_op op_add (pe_op op_mul (pv 3) pe_int) (pv 4)) pe_int) (pv 1)))))))), ?_⟩
  replace hsp := hsp.2
  obtain ⟨pp, m, n, rfl, h1, h2, ⟨_, hp, a, b, c, rfl, ha, hb, hb2, hc, hc2⟩, hn, q⟩ := hsp
  have i0 : ∀ {x y z : Int}, atI [V.int x, .int y, .int z] 0 = some (.int x) := fun {x y z} => atI_nat (xs := [V.int x, .int y, .int z]) (j := 0) rfl
  have i1 : ∀ {x y z : Int}, atI [V.int x, .int y, .int z] 1 = some (.int y) := fun {x y z} => atI_nat (xs := [V.int x, .int y, .int z]) (j := 1) rfl
  have i2 : ∀ {x y z : Int}, atI [V.int x, .int y, .int z] 2 = some (.int z) := fun {x y z} => atI_nat (xs := [V.int x, .int y, .int z]) (j := 2) rfl
  refine ⟨_, rfl, pp, _, _, _, rfl, rfl, sq_of hp, i0, _, _, rfl, rfl, _, rfl, ?_⟩
  by_cases z : 0 < a
  · refine iteT (by simp; exact z) ⟨_, rfl, pp, _, _, _, rfl, rfl, sq_of hp, i0, _, rfl, _, _, rfl, rfl, h1, ?_⟩
    refine ⟨_, rfl, pp, _, _, _, rfl, rfl, sq_of hp, i0, _, rfl, _, _, rfl, rfl, ⟨h1, by omega⟩, _, rfl, pp, _, _, 0, rfl, rfl, hp, rfl, _, rfl, ?_⟩
    exact q _ _ (Int.emod_nonneg _ (by omega)) (Int.emod_lt_of_pos _ h1) ⟨_, _, _, rfl, Int.ediv_nonneg ha (by omega), hb, hb2, hc, by omega⟩
  · refine iteF (by simp; omega) ⟨_, rfl, pp, _, _, _, rfl, rfl, sq_of hp, i2, _, _, rfl, rfl, _, rfl, pp, _, _, 2, rfl, rfl, hp, rfl, ?_⟩
    have hp2 : upd H pp (.lst [.int a, .int b, .int (c + 1)]) pp = some (.lst [.int a, .int b, .int (c + 1)]) := upd_same
    refine ⟨_, rfl, pp, _, _, _, rfl, rfl, sq_of hp2, i1, _, rfl, pp, _, _, _, rfl, rfl, sq_of hp2, i2, _, _, rfl, rfl, .inl ⟨by decide, by decide⟩, _, _, rfl, rfl, _, _, rfl, rfl, _, _, rfl, rfl, ⟨by decide, by decide, by omega⟩, _, _, rfl, rfl, (show (0 : Int) < 2147483647 by decide), ?_⟩
    have hbc : 0 ≤ b * (c + 1) := Int.mul_nonneg hb (by omega)
    have hbc2 : b * (c + 1) ≤ 2147483587 * (c + 1) := Int.mul_le_mul_of_nonneg_right (by omega) (by omega)
    refine ⟨_, rfl, pp, _, _, _, rfl, rfl, sq_of hp2, i1, _, rfl, pp, _, _, _, rfl, rfl, sq_of hp2, i2, _, _, rfl, rfl, .inl ⟨by omega, by omega⟩, _, _, rfl, rfl, _, _, rfl, rfl, ⟨by decide, by decide, by omega⟩, _, _, rfl, rfl, (show (0 : Int) < 2147483629 by decide), ?_⟩
    refine ⟨_, rfl, _, _, rfl, rfl, .inr ⟨by decide, by decide⟩, _, rfl, _, _, rfl, rfl, _, _, rfl, rfl, ⟨by decide, by decide⟩, _, rfl, _, _, rfl, rfl, h1, ?_⟩
    exact q _ _ (Int.emod_nonneg _ (by omega)) (Int.emod_lt_of_pos _ h1) ⟨_, _, _, rfl, ha, hb, hb2, by omega, by omega⟩
def OrdsAt (G : Hp) (l : Addr) : Prop := ∃ as : List Addr, G l = some (.lst (as.map V.ref)) ∧ Paired (fun a o => G a = some (.tup (natsV o))) as ordersM
def sp_law_orders (K : PySem.W.Frag) : Sp := spN 0 fun vs H Q _ => ∃ G, vs = [] ∧ Ex G H ∧ ∀ l G' H', Gr none G H G' H' → OrdsAt G' l → Q (.ref l) H'
abbrev N_law_orders : List Str := []
theorem sc_law_orders : FnScope N_law_orders [] (defScope s_law_orders) := ⟨rfl, rfl, rfl, by decide +kernel, rfl, by decide +kernel, by decide +kernel⟩
theorem w_law_orders {P : Program} {w : World} {K : PySem.W.Frag} {mg : Str → Option Value} {base : Heap} (T : Tp K mg)  : FnE P w K mg base 1 (He.ga K "_law_orders") [] [] (sp_law_orders K) := by
  refine fne T.f_law_orders sc_law_orders (fun _ _ _ _ h => h.1) (fun _ _ _ _ _ _ us hl => match us, hl with | [], _ => rfl) fun cdv A outer s H vs Q E hr hsp => ?_
  have nd := sc_law_orders.nd
  refine ⟨_, (pss_one (ps_ret (pe_lst (pa_cons (pe_tup (pa_cons pe_int (pa_cons pe_int (pa_cons pe_int pa_nil)))) (pa_cons (pe_tup (pa_cons pe_int (pa_cons pe_int (pa_cons pe_int pa_nil)))) (pa_cons (pe_tup (pa_cons pe_int (pa_cons pe_int (pa_cons pe_int pa_nil)))) (pa_cons (pe_tup (pa_cons pe_int (pa_cons pe_int (pa_cons pe_int pa_nil)))) (pa_cons (pe_tup (pa_cons pe_int (pa_cons pe_int (pa_cons pe_int pa_nil)))) (pa_cons (pe_tup (pa_cons pe_int (pa_cons pe_int (pa_cons pe_int pa_nil)))) pa_nil))))))))), ?_⟩
  replace hsp := hsp.2
  obtain ⟨G, rfl, s0, q⟩ := hsp
  refine ⟨szl (by simp), fun a1 n1 => ⟨szl (by simp), fun a2 n2 => ⟨szl (by simp), fun a3 n3 => ⟨szl (by simp), fun a4 n4 => ⟨szl (by simp), fun a5 n5 => ⟨szl (by simp), fun a6 n6 => ⟨szl (by simp), fun l nl => ?_⟩⟩⟩⟩⟩⟩⟩
  have g1 := (Gr.start (m := none) s0).new (o := .tup (natsV [0, 1, 2])) n1
  have g2 := g1.new (o := .tup (natsV [0, 2, 1])) n2
  have g3 := g2.new (o := .tup (natsV [1, 0, 2])) n3
  have g4 := g3.new (o := .tup (natsV [1, 2, 0])) n4
  have g5 := g4.new (o := .tup (natsV [2, 0, 1])) n5
  have g6 := g5.new (o := .tup (natsV [2, 1, 0])) n6
  have g7 := g6.new (o := .lst ([a1, a2, a3, a4, a5, a6].map V.ref)) nl
  have k2 := Ex.new (o := .tup (natsV [0, 2, 1])) (back g1.s n2)
  have k3 := Ex.new (o := .tup (natsV [1, 0, 2])) (back g2.s n3)
  have k4 := Ex.new (o := .tup (natsV [1, 2, 0])) (back g3.s n4)
  have k5 := Ex.new (o := .tup (natsV [2, 0, 1])) (back g4.s n5)
  have k6 := Ex.new (o := .tup (natsV [2, 1, 0])) (back g5.s n6)
  have k7 := Ex.new (o := .lst ([a1, a2, a3, a4, a5, a6].map V.ref)) (back g6.s nl)
  exact q l _ _ g7 ⟨[a1, a2, a3, a4, a5, a6], upd_same, .cons (k7 _ _ (k6 _ _ (k5 _ _ (k4 _ _ (k3 _ _ (k2 _ _ upd_same)))))) (.cons (k7 _ _ (k6 _ _ (k5 _ _ (k4 _ _ (k3 _ _ upd_same))))) (.cons (k7 _ _ (k6 _ _ (k5 _ _ (k4 _ _ upd_same)))) (.cons (k7 _ _ (k6 _ _ (k5 _ _ upd_same))) (.cons (k7 _ _ (k6 _ _ upd_same)) (.cons (k7 _ _ upd_same) .nil)))))⟩
end BX
/-! the walks: drawn sides, drawn names -/
namespace BX
open PySem PySem.Spec PyProof.Rows L2
theorem PurseAt.upd {H : Hp} {pp p : Addr} {n : Nat} {o : HO} (h : PurseAt H pp n) (hn : p ≠ pp) : PurseAt (L2.upd H p o) pp n := by
  obtain ⟨u, hu, z⟩ := h
  exact ⟨u, by rw [upd_ne hn.symm]; exact hu, z⟩
theorem PurseAt.ne {H : Hp} {pp p : Addr} {n : Nat} (h : PurseAt H pp n) (hp : H p = none) : p ≠ pp := fun z => by
  obtain ⟨u, hu, _⟩ := h
  rw [z, hu] at hp
  cases hp
def sp_law_three (K : PySem.W.Frag) : Sp := spN 2 fun vs H Q _ => ∃ (G : Hp) (pp : Addr) (most : Int) (n : Nat), vs = [.ref pp, .int most] ∧ Ex G H ∧ G pp = none ∧ PurseAt H pp n ∧ n ≤ 900000 ∧ 12 ≤ most ∧ most ≤ 100000 ∧
  ∀ l x y z G' H', Pu pp (n + 6) G H G' H' → G' l = some (.lst [.int x, .int y, .int z]) → 1 ≤ x ∧ x ≤ most → 1 ≤ y ∧ y ≤ most → 1 ≤ z ∧ z ≤ most → Q (.ref l) H'
abbrev N_law_three : List Str := ["_law_purse_here", "_law_most", "_law_great", "_law_found", "_law_k", "_law_way"]
theorem sc_law_three : FnScope N_law_three ["_law_purse_here", "_law_most"] (defScope s_law_three) := ⟨rfl, rfl, rfl, by decide +kernel, rfl, by decide +kernel, by decide +kernel⟩
theorem w_law_three {P : Program} {w : World} {K : PySem.W.Frag} {mg : Str → Option Value} {base : Heap} (T : Tp K mg) (F_law_take : FnE P w K mg base 1 (He.ga K "_law_take") ["_law_purse_here", "_law_many"] [] (sp_law_take K)) : FnE P w K mg base 2 (He.ga K "_law_three") ["_law_purse_here", "_law_most"] [] (sp_law_three K) := by
  refine fne T.f_law_three sc_law_three (fun _ _ _ _ h => h.1) (fun _ _ _ _ _ _ us hl => match us, hl with | [_, _], _ => rfl) fun cdv A outer s H vs Q E hr hsp => ?_
  have nd := sc_law_three.nd
  refine ⟨_, (pss_cons (pset 2 nd (pe_ix (r := rIxL K) ix_list (pe_lst (pa_cons pe_int (pa_cons pe_int (pa_cons (pv 1) pa_nil)))) (pcall F_law_take (hr.mono (by decide)) T.g_law_take (pa_cons (pv 0) (pa_cons pe_int pa_nil))) (fun _ _ => rfl)))
      (pss_cons (ps_setLc (i := 3) (own := [("_law_k", 4)]) (g := gName 4) rfl nd rfl rfl (sw_true rfl rfl rfl (by decide +kernel)) (pi_range1 (by rfl) T.z_range (pa_cons pe_int pa_nil)) (blkOk_by (N := N_law_three) (sc := defScope s_law_three) (by decide +kernel)) (fun _ _ _ _ _ => (pgn 4 nd)) (fun _ _ _ _ _ => pts_nil) (fun _ _ _ _ _ => (pe_op op_add pe_int (pcall F_law_take (hr.mono (by decide)) T.g_law_take (pa_cons (pv 0) (pa_cons (pv 2) pa_nil))))))
      (pss_cons (pset 5 nd (pcall F_law_take (hr.mono (by decide)) T.g_law_take (pa_cons (pv 0) (pa_cons pe_int pa_nil))))
      (pss_cons (ps_if (pt_cmpR op_lt (pv 5) pe_int (nomark _)) (pss_one (ps_asg (pe_ix (r := rIxL K) ix_list (pv 3) (pe_op op_mod (pe_op op_add (pv 5) pe_int) pe_int) (fun _ _ => rfl)) (pg_sub (pv 3) (pv 5) set_list))) pss_nil)
      (pss_cons (ps_if (pt_cmpR op_eq (pv 5) pe_int (nomark _)) (pss_one (pset 3 nd (pe_lst (pa_cons (pe_ix (r := rIxL K) ix_list (pv 3) pe_int (fun _ _ => rfl)) (pa_cons (pe_ix (r := rIxL K) ix_list (pv 3) pe_int (fun _ _ => rfl)) (pa_cons (pe_ix (r := rIxL K) ix_list (pv 3) pe_int (fun _ _ => rfl)) pa_nil)))))) pss_nil)
      (pss_cons (ps_if (pt_cmpR op_eq (pv 5) pe_int (nomark _)) (pss_one (ps_asg (pv 1) (pg_sub (pv 3) (pcall F_law_take (hr.mono (by decide)) T.g_law_take (pa_cons (pv 0) (pa_cons pe_int pa_nil))) set_list))) pss_nil)
      (pss_one (ps_ret (pv 3))))))))), ?_⟩
  replace hsp := hsp.2
  obtain ⟨G, pp, most, n, rfl, s0, pg, ph, hn, m1, m2, q⟩ := hsp
  have P0 : Pu pp n G H G H := Pu.start s0 pg ph
  refine ⟨_, rfl, szl (by simp), fun l0 nl0 => ?_⟩
  have P1 := P0.exH (Ex.new (o := .lst [.int 3, .int 12, .int most]) nl0)
  refine ⟨_, rfl, rfl, pp, 3, n, rfl, by decide, by decide, P1.ph, by omega, fun d o d0 d1 ho => ?_⟩
  have P2 := P1.draw ho
  have hl0 : upd (upd H l0 (.lst [.int 3, .int 12, .int most])) pp o l0 = some (.lst [.int 3, .int 12, .int most]) := by
    rw [upd_ne (P0.ne nl0), upd_same]
  obtain ⟨g, hg, g3, gm⟩ : ∃ g, atI [V.int 3, .int 12, .int most] d = some (.int g) ∧ 3 ≤ g ∧ g ≤ most := by
    rcases (show d = 0 ∨ d = 1 ∨ d = 2 by omega) with r | r | r <;> subst r
    · exact ⟨3, atI_nat (j := 0) rfl, by omega, by omega⟩
    · exact ⟨12, atI_nat (j := 1) rfl, by omega, by omega⟩
    · exact ⟨most, atI_nat (j := 2) rfl, by omega, by omega⟩
  refine ⟨l0, _, d, _, rfl, rfl, sq_of hl0, hg, _, rfl, by decide, by decide, fun D nD => lcP (m := some pp) (walk_rg (n := 3)) P2.gr nD P2.hm (by decide)
    (fun j G4 H4 acc => ∃ xs : List Int, acc = xs.map V.int ∧ xs.length = j ∧ (∀ x ∈ xs, 1 ≤ x ∧ x ≤ most) ∧ PurseAt H4 pp (n + 1 + j) ∧ G4 pp = none) (fun _ _ _ _ _ _ _ _ => trivial) ⟨[], rfl, rfl, (fun _ z => by cases z), P2.ph.upd (P2.ne nD), P2.pg⟩ (fun j v G4 H4 acc H5 N1 S1 hj g4 e4 gD hD hR hy k1 k2 => ?_) fun G4 H4 acc g4 e4 gD hD hR => ?_⟩
  · obtain ⟨xs, rfl, xl, xb, p4, pg4⟩ := hR
    obtain ⟨rfl, rfl⟩ := hy
    have P4 : Pu pp (n + 1 + j) _ _ G4 H5 := ⟨g4, pg4, p4⟩
    have nDp : D ≠ pp := P2.ne nD
    refine ⟨rfl, yes (iteT rfl ⟨_, rfl, _, rfl, rfl, pp, g, n + 1 + j, rfl, by omega, by omega, p4, by omega, fun d o d0 d1 ho => ⟨_, _, rfl, rfl, k1 _ G4 _ (P4.draw ho).gr e4 gD (by rw [upd_ne nDp]; exact hD) ⟨xs ++ [1 + d], by rw [List.map_append] <;> rfl, by rw [List.length_append, xl] <;> rfl, fun x hx => ?_, PurseAt.upd (P4.draw ho).ph nDp, pg4⟩⟩⟩)⟩
    rcases List.mem_append.mp hx with hx | hx
    · exact xb x hx
    · rw [List.mem_singleton.mp hx]
      omega
  · obtain ⟨xs, rfl, xl, xb, p4, pg4⟩ := hR
    obtain ⟨x, y, z, rfl⟩ := three_of xl
    have bx := xb x (by simp)
    have by' := xb y (by simp)
    have bz := xb z (by simp)
    have P4 : Pu pp (n + 4) G H G4 H4 := ⟨g4, pg4, p4⟩
    have nDp : D ≠ pp := P2.ne nD
    have nDH : H D = none := P2.free nD
    refine ⟨_, rfl, rfl, pp, 6, n + 4, rfl, by decide, by decide, p4, by omega, fun w o w0 w1 ho => ?_⟩
    have P5 := P4.draw ho
    have hD5 : upd H4 pp o D = some (.lst [.int x, .int y, .int z]) := by
      rw [upd_ne nDp]
      exact hD
    generalize hH5 : upd H4 pp o = H5 at *
    have fin : ∀ (x y z : Int) (H6 : Hp), Pu pp (n + 6) G H G4 H6 → H6 D = some (.lst [.int x, .int y, .int z]) → 1 ≤ x ∧ x ≤ most → 1 ≤ y ∧ y ≤ most → 1 ≤ z ∧ z ≤ most → Q (.ref D) H6 := fun x y z H6 P6 h6 b1 b2 b3 => q D x y z _ H6 (P6.keep nDH gD h6 nDp) upd_same b1 b2 b3
    have g0 : ∀ {x y z : Int}, atI [V.int x, .int y, .int z] 0 = some (.int x) := fun {x y z} => atI_nat (xs := [V.int x, .int y, .int z]) (j := 0) rfl
    have g1 : ∀ {x y z : Int}, atI [V.int x, .int y, .int z] 1 = some (.int y) := fun {x y z} => atI_nat (xs := [V.int x, .int y, .int z]) (j := 1) rfl
    have g2 : ∀ {x y z : Int}, atI [V.int x, .int y, .int z] 2 = some (.int z) := fun {x y z} => atI_nat (xs := [V.int x, .int y, .int z]) (j := 2) rfl
    have pt : ∀ {o : HO}, Pu pp (n + 6) G H G4 (upd H5 D o) := fun {o} => (P5.le (by omega)).put nDH gD nDp
    rcases (show w = 0 ∨ w = 1 ∨ w = 2 ∨ w = 3 ∨ w = 4 ∨ w = 5 by omega) with r | r | r | r | r | r <;> subst r
    · refine ⟨_, rfl, _, _, rfl, rfl, _, rfl, iteT (by decide) ⟨_, rfl, _, rfl, _, _, rfl, rfl, _, _, rfl, rfl, (show (0 : Int) < 3 by decide), D, _, _, _, rfl, rfl, sq_of hD5, g1, _, rfl, _, rfl, D, _, _, 0, rfl, rfl, hD5, rfl, ?_⟩⟩
      exact ⟨_, rfl, rfl, _, rfl, iteF (by decide) ⟨_, rfl, rfl, _, rfl, iteF (by decide) ⟨_, rfl, fin _ _ _ _ pt upd_same by' by' bz⟩⟩⟩
    · refine ⟨_, rfl, _, _, rfl, rfl, _, rfl, iteT (by decide) ⟨_, rfl, _, rfl, _, _, rfl, rfl, _, _, rfl, rfl, (show (0 : Int) < 3 by decide), D, _, _, _, rfl, rfl, sq_of hD5, g2, _, rfl, _, rfl, D, _, _, 1, rfl, rfl, hD5, rfl, ?_⟩⟩
      exact ⟨_, rfl, rfl, _, rfl, iteF (by decide) ⟨_, rfl, rfl, _, rfl, iteF (by decide) ⟨_, rfl, fin _ _ _ _ pt upd_same bx bz bz⟩⟩⟩
    · refine ⟨_, rfl, _, _, rfl, rfl, _, rfl, iteT (by decide) ⟨_, rfl, _, rfl, _, _, rfl, rfl, _, _, rfl, rfl, (show (0 : Int) < 3 by decide), D, _, _, _, rfl, rfl, sq_of hD5, g0, _, rfl, _, rfl, D, _, _, 2, rfl, rfl, hD5, rfl, ?_⟩⟩
      exact ⟨_, rfl, rfl, _, rfl, iteF (by decide) ⟨_, rfl, rfl, _, rfl, iteF (by decide) ⟨_, rfl, fin _ _ _ _ pt upd_same bx by' bx⟩⟩⟩
    · refine ⟨_, rfl, _, _, rfl, rfl, _, rfl, iteF (by decide) ⟨_, rfl, rfl, _, rfl, iteT (by decide) ⟨_, rfl, D, _, _, _, rfl, rfl, sq_of hD5, g0, _, rfl, D, _, _, _, rfl, rfl, sq_of hD5, g0, _, rfl, D, _, _, _, rfl, rfl, sq_of hD5, g0, szl (by simp), fun l2 nl2 => ?_⟩⟩⟩
      have P6 := (P5.le (n' := n + 6) (by omega)).new (o := .lst [.int x, .int x, .int x]) nl2
      exact ⟨_, rfl, rfl, _, rfl, iteF (by decide) ⟨_, rfl, q l2 x x x _ _ P6 upd_same bx bx bx⟩⟩
    · refine ⟨_, rfl, _, _, rfl, rfl, _, rfl, iteF (by decide) ⟨_, rfl, rfl, _, rfl, iteF (by decide) ⟨_, rfl, rfl, _, rfl, iteT (by decide) ⟨_, rfl, _, rfl, _, rfl, rfl, pp, 3, n + 5, rfl, by decide, by decide, P5.ph, by omega, fun e o e0 e1 ho2 => ?_⟩⟩⟩⟩
      have P6 := P5.draw ho2
      have hD6 : upd H5 pp o D = some (.lst [.int x, .int y, .int z]) := by
        rw [upd_ne nDp]
        exact hD5
      have bm : 1 ≤ most ∧ most ≤ most := ⟨by omega, Int.le_refl _⟩
      have pt2 : ∀ {o' : HO}, Pu pp (n + 6) G H G4 (upd (upd H5 pp o) D o') := fun {o'} => P6.put nDH gD nDp
      rcases (show e = 0 ∨ e = 1 ∨ e = 2 by omega) with r | r | r <;> subst r
      · exact ⟨D, _, _, 0, rfl, rfl, hD6, rfl, _, rfl, fin _ _ _ _ pt2 upd_same bm by' bz⟩
      · exact ⟨D, _, _, 1, rfl, rfl, hD6, rfl, _, rfl, fin _ _ _ _ pt2 upd_same bx bm bz⟩
      · exact ⟨D, _, _, 2, rfl, rfl, hD6, rfl, _, rfl, fin _ _ _ _ pt2 upd_same bx by' bm⟩
    · exact ⟨_, rfl, _, _, rfl, rfl, _, rfl, iteF (by decide) ⟨_, rfl, rfl, _, rfl, iteF (by decide) ⟨_, rfl, rfl, _, rfl, iteF (by decide) ⟨_, rfl, fin _ _ _ _ (P5.le (by omega)) hD5 bx by' bz⟩⟩⟩⟩
end BX
/-! the walks: drawn names, drawn layings -/
namespace BX
open PySem PySem.Spec PyProof.Rows L2
theorem erase_perm {α : Type} : ∀ {l : List α} {i : Nat} {a : α}, l[i]? = some a → (a :: l.eraseIdx i).Perm l
  | b :: l, 0, a, h => by
    cases h
    exact List.Perm.refl _
  | b :: l, i + 1, a, h => by
    have ih := erase_perm (l := l) (i := i) (a := a) h
    exact (List.Perm.swap b a _).trans (ih.cons b)
theorem get_toNat {α : Type} {l : List α} {d : Int} (h0 : 0 ≤ d) (h1 : d < (l.length : Nat)) : ∃ a, l[d.toNat]? = some a ∧ seqIndex? d l.length = some d.toNat := by
  have z : d.toNat < l.length := by omega
  refine ⟨l[d.toNat], List.getElem?_eq_getElem z, ?_⟩
  have e : d = ((d.toNat : Nat) : Int) := by omega
  rw [e, seq_ix z, Int.toNat_natCast]
def sp_law_picked (K : PySem.W.Frag) : Sp := spN 3 fun vs H Q _ => ∃ (G : Hp) (pp t : Addr) (ns : List Str) (m n : Nat), vs = [.ref pp, .ref t, .int (m : Nat)] ∧ Ex G H ∧ G pp = none ∧ PurseAt H pp n ∧ n ≤ 900000 ∧ G t = some (.lst (ns.map V.str)) ∧ ns.length ≤ 12 ∧ m ≤ ns.length ∧
  ∀ l (xs : List Str) G' H', Pu pp (n + m) G H G' H' → G' l = some (.lst (xs.map V.str)) → xs.length = m → (∃ rest, (xs ++ rest).Perm ns) → Q (.ref l) H'
abbrev N_law_picked : List Str := ["_law_purse_here", "_law_names_here", "_law_many", "_law_left", "_law_k"]
theorem sc_law_picked : FnScope N_law_picked ["_law_purse_here", "_law_names_here", "_law_many"] (defScope s_law_picked) := ⟨rfl, rfl, rfl, by decide +kernel, rfl, by decide +kernel, by decide +kernel⟩
theorem w_law_picked {P : Program} {w : World} {K : PySem.W.Frag} {mg : Str → Option Value} {base : Heap} (T : Tp K mg) (F_law_take : FnE P w K mg base 1 (He.ga K "_law_take") ["_law_purse_here", "_law_many"] [] (sp_law_take K)) : FnE P w K mg base 2 (He.ga K "_law_picked") ["_law_purse_here", "_law_names_here", "_law_many"] [] (sp_law_picked K) := by
  refine fne T.f_law_picked sc_law_picked (fun _ _ _ _ h => h.1) (fun _ _ _ _ _ _ us hl => match us, hl with | [_, _, _], _ => rfl) fun cdv A outer s H vs Q E hr hsp => ?_
  have nd := sc_law_picked.nd
  refine ⟨_, (pss_cons (pset 3 nd (pe_callTy (r := rListQ K) cListQ (by rfl) T.z_list (by decide +kernel) (pa_cons (pv 1) pa_nil)))
      (pss_one (ps_ret (pe_lc (own := [("_law_k", 4)]) (g := gName 4) rfl nd (pi_range1 (by rfl) T.z_range (pa_cons (pv 2) pa_nil)) (blkOk_by (N := N_law_picked) (sc := defScope s_law_picked) (by decide +kernel)) (fun _ _ _ _ _ => (pgn 4 nd)) (fun _ _ _ _ _ => pts_nil) (fun _ _ _ _ _ => (pe_bm PySem.F.plainAttrs_list PySem.F.slot_list_pop PySem.F.type_list_pop mt_popAt (pv 3) (pa_cons (pcall F_law_take (hr.mono (by decide)) T.g_law_take (pa_cons (pv 0) (pa_cons (pe_callB (r := rLenQ K) cLenQ (by rfl) T.z_len (by decide +kernel) (pa_cons (pv 3) pa_nil)) pa_nil))) pa_nil) : PE _ _ (tBM K _ _ _ _))))))), ?_⟩
  replace hsp := hsp.2
  obtain ⟨G, pp, t, ns, m, n, rfl, s0, pg, ph, hn, ht, n12, hmn, q⟩ := hsp
  have P0 : Pu pp n G H G H := Pu.start s0 pg ph
  refine ⟨_, rfl, t, _, rfl, .inl (sq_of (s0 _ _ ht)), fun l0 nl0 => ?_⟩
  have P1 := P0.exH (Ex.new (o := .lst (ns.map V.str)) nl0)
  have l0p := P0.ne nl0
  have l0G : G l0 = none := back s0 nl0
  refine ⟨_, rfl, _, rfl, by omega, by omega, ?_⟩
  rw [Int.toNat_natCast]
  refine fun D nD => lcP (m := some pp) (walk_rg (n := m)) P1.gr nD P1.hm (sz_lt (by omega))
    (fun j G4 H4 acc => ∃ xs rest : List Str, acc = xs.map V.str ∧ xs.length = j ∧ (xs ++ rest).Perm ns ∧ H4 l0 = some (.lst (rest.map V.str)) ∧ G4 l0 = none ∧ PurseAt H4 pp (n + j) ∧ G4 pp = none) (fun _ _ _ _ _ _ _ _ => trivial) ⟨[], ns, rfl, rfl, List.Perm.refl _, upk upd_same nD, l0G, P1.ph.upd (P1.ne nD), P1.pg⟩ (fun j v G4 H4 acc H5 N1 S1 hj g4 e4 gD hD hR hy k1 k2 => ?_) fun G4 H4 acc g4 e4 gD hD hR => ?_
  · obtain ⟨xs, rest, rfl, xl, xp, hl0, gl0, p4, pg4⟩ := hR
    obtain ⟨rfl, rfl⟩ := hy
    have P4 : Pu pp (n + j) G H G4 H5 := ⟨g4, pg4, p4⟩
    have nDp : D ≠ pp := P1.ne nD
    have nDl : D ≠ l0 := fun z => by
      rw [z, upd_same] at nD
      cases nD
    have rl : rest.length = ns.length - j := by
      have := xp.length_eq
      rw [List.length_append] at this
      omega
    refine ⟨rfl, yes (iteT rfl ⟨_, rfl, .inl ⟨rfl, _, sq_of hl0⟩, _, rfl, _, rfl, l0, _, rfl, .inl (sq_of hl0), rfl, pp, _, n + j, rfl, by rw [List.length_map]; omega, by rw [List.length_map]; omega, p4, by omega, fun d o d0 d1 ho => ?_⟩)⟩
    rw [List.length_map] at d1
    have P5 := P4.draw ho
    have hl5 : upd H5 pp o l0 = some (.lst (rest.map V.str)) := by
      rw [upd_ne l0p]
      exact hl0
    obtain ⟨a, ha, hs⟩ := get_toNat (l := rest) d0 d1
    have P6 := P5.put (o := .lst ((rest.eraseIdx d.toNat).map V.str)) nl0 gl0 l0p
    refine ⟨l0, _, d, d.toNat, _, rfl, rfl, hl5, by omega, by omega, by rw [List.length_map]; exact hs, by rw [List.getElem?_map, ha] <;> rfl, ?_⟩
    rw [← eraseIdx_map']
    refine k1 _ G4 _ P6.gr e4 gD (by rw [upd_ne nDl, upd_ne nDp]; exact hD) ⟨xs ++ [a], rest.eraseIdx d.toNat, by rw [List.map_append] <;> rfl, by rw [List.length_append, xl] <;> rfl, ?_, by rw [upd_ne nDl.symm, upd_same], gl0, PurseAt.upd P6.ph nDp, pg4⟩
    rw [List.append_assoc]
    exact ((erase_perm ha).append_left xs).trans xp
  · obtain ⟨xs, rest, rfl, xl, xp, hl0, gl0, p4, pg4⟩ := hR
    have P4 : Pu pp (n + m) G H G4 H4 := ⟨g4, pg4, p4⟩
    exact q D xs _ H4 (P4.keep (P1.free nD) gD hD (P1.ne nD)) upd_same xl ⟨rest, xp⟩
theorem dpAll_at {K : PySem.W.Frag} {H : Hp} : ∀ {vs : List V} {ds : List PyData} {i : Nat} {v : V}, DpAll K H vs ds → vs[i]? = some v → ∃ d, ds[i]? = some d ∧ Dp K H v d
  | _, _, 0, _, .cons h _, e => by
    cases e
    exact ⟨_, rfl, h⟩
  | _, _, i + 1, _, .cons _ t, e => dpAll_at (i := i) t e
theorem dpAll_del {K : PySem.W.Frag} {H : Hp} : ∀ {vs : List V} {ds : List PyData} (i : Nat), DpAll K H vs ds → DpAll K H (vs.eraseIdx i) (ds.eraseIdx i)
  | _, _, _, .nil => .nil
  | _, _, 0, .cons _ t => t
  | _, _, i + 1, .cons h t => .cons h (dpAll_del i t)
theorem dpAll_app {K : PySem.W.Frag} {H : Hp} : ∀ {vs ws : List V} {ds es : List PyData}, DpAll K H vs ds → DpAll K H ws es → DpAll K H (vs ++ ws) (ds ++ es)
  | _, _, _, _, .nil, h => h
  | _, _, _, _, .cons h t, h2 => .cons h (dpAll_app t h2)
theorem pap_dep1 (p : Pap) : 1 ≤ papDep p := by
  cases p with
  | one _ _ => exact Nat.le_refl _
  | «by» _ _ _ => exact Nat.succ_le_succ (Nat.zero_le _)
/-- pieces of a laying of ns -/
structure PcsOk (ns : List Str) (ps : List Pap) : Prop where
  ok : ∀ p ∈ ps, papOk p
  names : (ps.flatMap papN).Perm ns
  dep : (ps.map papDep).sum ≤ ns.length
theorem sum_perm {l m : List Nat} (h : l.Perm m) : l.sum = m.sum := by
  induction h with
  | nil => rfl
  | cons a _ ih => rw [List.sum_cons, List.sum_cons, ih]
  | swap a b l =>
    rw [List.sum_cons, List.sum_cons, List.sum_cons, List.sum_cons]
    omega
  | trans _ _ h1 h2 => exact h1.trans h2
/-- two pieces laid beside -/
theorem PcsOk.two {ns : List Str} {ps : List Pap} {i j ax : Nat} {a b : Pap} (h : PcsOk ns ps) (ha : ps[i]? = some a) (hb : (ps.eraseIdx i)[j]? = some b) (hax : ax < 3) : PcsOk ns ((ps.eraseIdx i).eraseIdx j ++ [.by ax a b]) := by
  have p1 := erase_perm ha
  have p2 := erase_perm hb
  have p3 : (a :: b :: (ps.eraseIdx i).eraseIdx j).Perm ps := (p2.cons a).trans p1
  refine ⟨fun p hp => ?_, ?_, ?_⟩
  · rcases List.mem_append.mp hp with hp | hp
    · exact h.ok p (p3.subset (List.mem_cons_of_mem _ (List.mem_cons_of_mem _ hp)))
    · rw [List.mem_singleton.mp hp]
      exact ⟨hax, h.ok a (p3.subset (List.mem_cons_self ..)), h.ok b (p3.subset (List.mem_cons_of_mem _ (List.mem_cons_self ..)))⟩
  · have p4 := p3.flatMap_right papN
    refine List.Perm.trans ?_ (p4.trans h.names)
    rw [List.flatMap_append, List.flatMap_cons, List.flatMap_cons, List.flatMap_cons, List.flatMap_nil, List.append_nil, ← List.append_assoc]
    exact List.perm_append_comm
  · have s := sum_perm (p3.map papDep)
    rw [List.map_cons, List.map_cons, List.sum_cons, List.sum_cons] at s
    rw [List.map_append, List.sum_append, List.map_cons, List.sum_cons, List.map_nil, List.sum_nil]
    have e : papDep (.by ax a b) = max (papDep a) (papDep b) + 1 := rfl
    have := h.dep
    have := pap_dep1 a
    have := pap_dep1 b
    omega
theorem flat_ones : ∀ (ns : List Str) (os : List (List Nat)), os.length = ns.length → ((ns.zip os).map fun z => Pap.one z.1 z.2).flatMap papN = ns
  | [], [], _ => rfl
  | n :: ns, o :: os, h => by
    rw [List.zip_cons_cons, List.map_cons, List.flatMap_cons, flat_ones ns os (Nat.succ.inj h)] <;> rfl
def sp_law_laying (K : PySem.W.Frag) : Sp := spN 2 fun vs H Q _ => ∃ (G : Hp) (pp t : Addr) (ns : List Str) (n : Nat), vs = [.ref pp, .ref t] ∧ Ex G H ∧ G pp = none ∧ PurseAt H pp n ∧ n ≤ 900000 ∧ G t = some (.lst (ns.map V.str)) ∧ 1 ≤ ns.length ∧ ns.length ≤ 4 ∧
  ∀ v p G' H', Pu pp (n + 20) G H G' H' → Dp K G' v (papD p) → papOk p → (papN p).Perm ns → papDep p ≤ ns.length → Q v H'
abbrev N_law_laying : List Str := ["_law_purse_here", "_law_names_here", "_law_pieces", "_law_name", "_law_first", "_law_second"]
theorem sc_law_laying : FnScope N_law_laying ["_law_purse_here", "_law_names_here"] (defScope s_law_laying) := ⟨rfl, rfl, rfl, by decide +kernel, rfl, by decide +kernel, by decide +kernel⟩
theorem w_law_laying {P : Program} {w : World} {K : PySem.W.Frag} {mg : Str → Option Value} {base : Heap} (T : Tp K mg) (F_law_orders : FnE P w K mg base 1 (He.ga K "_law_orders") [] [] (sp_law_orders K)) (F_law_take : FnE P w K mg base 1 (He.ga K "_law_take") ["_law_purse_here", "_law_many"] [] (sp_law_take K)) : FnE P w K mg base 2 (He.ga K "_law_laying") ["_law_purse_here", "_law_names_here"] [] (sp_law_laying K) := by
  refine fne T.f_law_laying sc_law_laying (fun _ _ _ _ h => h.1) (fun _ _ _ _ _ _ us hl => match us, hl with | [_, _], _ => rfl) fun cdv A outer s H vs Q E hr hsp => ?_
  have nd := sc_law_laying.nd
  refine ⟨_, (pss_cons (ps_setLc (i := 2) (own := [("_law_name", 3)]) (g := gName 3) rfl nd rfl rfl (sw_true rfl rfl rfl (by decide +kernel)) (pi_list (pv 1) : PI _ _ _ (iList K _)) (blkOk_by (N := N_law_laying) (sc := defScope s_law_laying) (by decide +kernel)) (fun _ _ _ _ _ => (pgn 3 nd)) (fun _ _ _ _ _ => pts_nil) (fun _ _ _ _ _ => (pe_tup (pa_cons pe_str (pa_cons (pv 3) (pa_cons (pe_ix (r := rIxL K) ix_list (pcall0 F_law_orders (hr.mono (by decide)) T.g_law_orders) (pcall F_law_take (hr.mono (by decide)) T.g_law_take (pa_cons (pv 0) (pa_cons pe_int pa_nil))) (fun _ _ => rfl)) pa_nil))))))
      (pss_cons (ps_while PassesOwn.never (pt_cmpR op_gt (pe_callB (r := rLenQ K) cLenQ (by rfl) T.z_len (by decide +kernel) (pa_cons (pv 2) pa_nil)) pe_int (nomark _)) (pss_cons (pset 4 nd (pe_bm PySem.F.plainAttrs_list PySem.F.slot_list_pop PySem.F.type_list_pop mt_popAt (pv 2) (pa_cons (pcall F_law_take (hr.mono (by decide)) T.g_law_take (pa_cons (pv 0) (pa_cons (pe_callB (r := rLenQ K) cLenQ (by rfl) T.z_len (by decide +kernel) (pa_cons (pv 2) pa_nil)) pa_nil))) pa_nil) : PE _ _ (tBM K _ _ _ _)))
      (pss_cons (pset 5 nd (pe_bm PySem.F.plainAttrs_list PySem.F.slot_list_pop PySem.F.type_list_pop mt_popAt (pv 2) (pa_cons (pcall F_law_take (hr.mono (by decide)) T.g_law_take (pa_cons (pv 0) (pa_cons (pe_callB (r := rLenQ K) cLenQ (by rfl) T.z_len (by decide +kernel) (pa_cons (pv 2) pa_nil)) pa_nil))) pa_nil) : PE _ _ (tBM K _ _ _ _)))
      (pss_one (ps_expr (pe_bm PySem.F.plainAttrs_list PySem.F.slot_list_append PySem.F.type_list_append mt_append (pv 2) (pa_cons (pe_tup (pa_cons pe_str (pa_cons (pcall F_law_take (hr.mono (by decide)) T.g_law_take (pa_cons (pv 0) (pa_cons pe_int pa_nil))) (pa_cons (pv 4) (pa_cons (pv 5) pa_nil))))) pa_nil) : PE _ _ (tBM K _ _ _ _)))))))
      (pss_one (ps_ret (pe_ix (r := rIxL K) ix_list (pv 2) pe_int (fun _ _ => rfl)))))), ?_⟩
  replace hsp := hsp.2
  obtain ⟨G, pp, t, ns, n, rfl, s0, pg, ph, hn, ht, n1, n4, q⟩ := hsp
  have P0 : Pu pp n G H G H := Pu.start s0 pg ph
  refine ⟨_, rfl, t, rfl, ⟨_, sq_of (s0 _ _ ht)⟩, fun D nD => lcP (m := some pp) (walk_list (xs := ns.map V.str)) P0.gr nD P0.hm (sz_lt (by rw [List.length_map]; omega))
    (fun j G4 H4 acc => ∃ ps : List Pap, DpAll K G4 acc (ps.map papD) ∧ ps.length = j ∧ (∀ p ∈ ps, papOk p) ∧ ps.flatMap papN = ns.take j ∧ (ps.map papDep).sum ≤ j ∧ PurseAt H4 pp (n + j) ∧ G4 pp = none) (fun j G4 H4 acc _ g _ _ => sq_of (g.s _ _ (g.g _ _ ht))) ⟨[], .nil, rfl, (fun _ z => by cases z), rfl, Nat.le_refl _, P0.ph.upd (P0.ne nD), P0.pg⟩ (fun j v G4 H4 acc H5 N1 S1 hj g4 e4 gD hD hR hy k1 k2 => ?_) fun G4 H4 acc g4 e4 gD hD hR => ?_⟩
  · obtain ⟨ps, dps, pl, pok, pnm, pdp, p4, pg4⟩ := hR
    obtain ⟨rfl, hy⟩ := hy
    rw [List.getElem?_map] at hy
    obtain ⟨nm, hnm, rfl⟩ := Option.map_eq_some_iff.mp hy
    rw [List.length_map] at hj
    have P4 : Pu pp (n + j) G H G4 H5 := ⟨g4, pg4, p4⟩
    have nDp : D ≠ pp := P0.ne nD
    refine ⟨rfl, yes (iteT rfl ⟨_, rfl, rfl, G4, rfl, g4.s, fun lo G6 H6 g6 ⟨as, ha, hp⟩ => ?_⟩)⟩
    have P6 := P4.pure g6
    have D6 := g6.e _ _ hD
    have gD6 := g6.out gD hD
    refine ⟨_, rfl, rfl, pp, 6, n + j, rfl, by decide, by decide, P6.ph, by omega, fun d o d0 d1 ho => ?_⟩
    have P7 := P6.draw ho
    have la : (as.map V.ref).length = 6 := by rw [List.length_map, hp.length] <;> rfl
    obtain ⟨w, hw, hs⟩ := get_toNat (l := as.map V.ref) d0 (by rw [la]; exact d1)
    rw [List.getElem?_map] at hw
    obtain ⟨oa, hoa, rfl⟩ := Option.map_eq_some_iff.mp hw
    obtain ⟨od, hod, hot⟩ := pr_at hp hoa
    have hom : od ∈ ordersM := List.mem_of_getElem? hod
    refine ⟨lo, _, d, .ref oa, rfl, rfl, sq_of (P7.gr.s _ _ ha), ?_, szl (by simp), fun r nr => ?_⟩
    · have ed : d = ((d.toNat : Nat) : Int) := by omega
      rw [ed]
      exact atI_nat (by rw [List.getElem?_map, hoa] <;> rfl)
    have P8 := P7.new (o := .tup [.str "one", .str nm, .ref oa]) nr
    have e8 := Ex.new (o := .tup [.str "one", .str nm, .ref oa]) (back P7.gr.s nr)
    have D7 : upd H6 pp o D = some (.lst acc) := by
      rw [upd_ne nDp]
      exact D6
    refine k1 _ _ _ P8.gr ((e4.trans g6.g).trans e8) (upn gD6 D7 nr) (upk D7 nr) ⟨ps ++ [.one nm od], ?_, by rw [List.length_append, pl] <;> rfl, fun p hp => ?_, ?_, ?_, PurseAt.upd P8.ph nDp, P8.pg⟩
    · rw [List.map_append]
      exact dpAll_app (DpAll.ex dps (g6.g.trans e8)) (.cons (.tup (st_of upd_same) (.cons (.str _) (.cons (.str _) (.cons (dpe (dp_ord hot) e8) .nil)))) .nil)
    · rcases List.mem_append.mp hp with hp | hp
      · exact pok p hp
      · rw [List.mem_singleton.mp hp]
        exact hom
    · rw [List.flatMap_append, pnm, take_snoc hnm] <;> rfl
    · rw [List.map_append, List.sum_append]
      show _ + 1 ≤ j + 1
      omega
  · obtain ⟨ps, dps, pl, pok, pnm, pdp, p4, pg4⟩ := hR
    rw [List.length_map] at pl pnm pdp p4
    rw [List.take_length] at pnm
    have nDp : D ≠ pp := P0.ne nD
    have nDH : H D = none := nD
    have P4 : Pu pp (n + ns.length) G H G4 H4 := ⟨g4, pg4, p4⟩
    refine ⟨fun m σ H' => ∃ G' vs ps o3 o4 o5, m = ps.length ∧ 1 ≤ m ∧ m ≤ ns.length ∧ σ = [some (.ref pp), some (.ref t), some (.ref D), o3, o4, o5] ∧ Pu pp (n + ns.length + 3 * (ns.length - m)) G H G' H' ∧ G' D = none ∧ H' D = some (.lst vs) ∧ DpAll K G' vs (ps.map papD) ∧ PcsOk ns ps, ⟨ns.length, G4, acc, ps, _, _, _, pl.symm, n1, Nat.le_refl _, rfl, by rw [Nat.sub_self]; exact P4, gD, hD, dps, ⟨pok, by rw [pnm], pdp⟩⟩, fun m σ H' W => ?_⟩
    obtain ⟨G5, vs, ps5, o3, o4, o5, rfl, m1, m2, rfl, P5, gD5, hD5, dp5, ok5⟩ := W
    have vl : vs.length = ps5.length := by
      rw [dpAll_length dp5, List.length_map]
    refine ⟨_, rfl, D, _, rfl, .inl (sq_of hD5), _, _, rfl, rfl, _, rfl, ?_⟩
    by_cases big : 1 < ps5.length
    · refine iteT (by rw [vl, decide_eq_true_iff]; omega) ⟨fun σ' H' => ∃ G' vs ps o3 o4 o5, ps.length + 1 = ps5.length ∧ σ' = [some (.ref pp), some (.ref t), some (.ref D), o3, o4, o5] ∧ Pu pp (n + ns.length + 3 * (ns.length - ps.length)) G H G' H' ∧ G' D = none ∧ H' D = some (.lst vs) ∧ DpAll K G' vs (ps.map papD) ∧ PcsOk ns ps, fun σ' H' W => ?_, ?_⟩
      · obtain ⟨G6, vs6, ps6, p3, p4, p5, l6, e6, P6, gD6, hD6, dp6, ok6⟩ := W
        exact ⟨ps6.length, by omega, G6, vs6, ps6, p3, p4, p5, rfl, by omega, by omega, e6, P6, gD6, hD6, dp6, ok6⟩
      refine ⟨_, rfl, .inl ⟨rfl, _, sq_of hD5⟩, _, rfl, _, rfl, D, _, rfl, .inl (sq_of hD5), rfl, pp, _, _, rfl, by rw [vl]; omega, by rw [vl]; omega, P5.ph, by omega, fun d o d0 d1 ho => ?_⟩
      have P6 := P5.draw ho
      have hD6 : upd H' pp o D = some (.lst vs) := by
        rw [upd_ne nDp]
        exact hD5
      obtain ⟨va, hva, hs⟩ := get_toNat (l := vs) d0 d1
      obtain ⟨da, hda, dpa⟩ := dpAll_at dp5 hva
      rw [List.getElem?_map] at hda
      obtain ⟨pa, hpa, rfl⟩ := Option.map_eq_some_iff.mp hda
      refine ⟨D, vs, d, d.toNat, va, rfl, rfl, hD6, by omega, by omega, hs, hva, ?_⟩
      have P7 := P6.put (o := .lst (vs.eraseIdx d.toNat)) nDH gD5 nDp
      have dp7 := dpAll_del d.toNat dp5
      rw [← eraseIdx_map'] at dp7
      have vl7 : (vs.eraseIdx d.toNat).length = (ps5.eraseIdx d.toNat).length := by
        rw [dpAll_length dp7, List.length_map]
      have el : (ps5.eraseIdx d.toNat).length = ps5.length - 1 := by
        rw [List.length_eraseIdx]
        rw [if_pos (List.getElem?_eq_some_iff.mp hpa).1]
      refine ⟨_, rfl, .inl ⟨rfl, _, sq_of upd_same⟩, _, rfl, _, rfl, D, _, rfl, .inl (sq_of upd_same), rfl, pp, _, _, rfl, by rw [vl7, el]; omega, by rw [vl7, el]; omega, P7.ph, by omega, fun d2 o2 d20 d21 ho2 => ?_⟩
      have P8 := P7.draw ho2
      obtain ⟨vb, hvb, hs2⟩ := get_toNat (l := vs.eraseIdx d.toNat) d20 d21
      obtain ⟨db, hdb, dpb⟩ := dpAll_at dp7 hvb
      rw [List.getElem?_map] at hdb
      obtain ⟨pb, hpb, rfl⟩ := Option.map_eq_some_iff.mp hdb
      refine ⟨D, vs.eraseIdx d.toNat, d2, d2.toNat, vb, rfl, rfl, by rw [upd_ne nDp, upd_same], by omega, by omega, hs2, hvb, ?_⟩
      have P9 := P8.put (o := .lst ((vs.eraseIdx d.toNat).eraseIdx d2.toNat)) nDH gD5 nDp
      have dp9 := dpAll_del d2.toNat dp7
      rw [← eraseIdx_map'] at dp9
      refine ⟨_, rfl, .inl ⟨rfl, _, sq_of upd_same⟩, _, rfl, rfl, pp, 3, _, rfl, by decide, by decide, P9.ph, by omega, fun d3 o3' d30 d31 ho3 => ?_⟩
      have P10 := P9.draw ho3
      refine ⟨_, rfl, _, rfl, szl (by simp), fun r nr => ?_⟩
      have P11 := P10.new (o := .tup [.str "by", .int d3, va, vb]) nr
      have e11 := Ex.new (o := .tup [.str "by", .int d3, va, vb]) (back P10.gr.s nr)
      have hD10 : upd (upd (upd (upd (upd H' pp o) D (.lst (vs.eraseIdx d.toNat))) pp o2) D (.lst ((vs.eraseIdx d.toNat).eraseIdx d2.toNat))) pp o3' D = some (.lst ((vs.eraseIdx d.toNat).eraseIdx d2.toNat)) := by
        rw [upd_ne nDp, upd_same]
      have gD11 := upn (x := .tup [.str "by", .int d3, va, vb]) gD5 hD10 nr
      have el2 : ((ps5.eraseIdx d.toNat).eraseIdx d2.toNat).length = ps5.length - 2 := by
        rw [List.length_eraseIdx, el]
        rw [if_pos (by have := (List.getElem?_eq_some_iff.mp hpb).1; omega)]
        omega
      have vl9 : ((vs.eraseIdx d.toNat).eraseIdx d2.toNat).length = ((ps5.eraseIdx d.toNat).eraseIdx d2.toNat).length := by
        rw [dpAll_length dp9, List.length_map]
      have ed : d3 = ((d3.toNat : Nat) : Int) := by omega
      refine ⟨D, _, _, rfl, rfl, upk hD10 nr, sz_lt (by rw [vl9, el2]; omega), _, _, (ps5.eraseIdx d.toNat).eraseIdx d2.toNat ++ [.by d3.toNat pa pb], _, _, _, ?_, rfl, (P11.le ?_).put nDH gD11 nDp, gD11, upd_same, ?_, ok5.two hpa hpb (by omega)⟩
      · rw [List.length_append, el2]
        show ps5.length - 2 + 1 + 1 = _
        omega
      · rw [List.length_append, el2]
        show _ ≤ n + ns.length + 3 * (ns.length - (ps5.length - 2 + 1))
        omega
      · rw [List.map_append]
        refine dpAll_app (DpAll.ex dp9 e11) (.cons (.tup (st_of upd_same) (.cons (.str _) (.cons ?_ (.cons (dpe dpa e11) (.cons (dpe dpb e11) .nil))))) .nil)
        rw [ed]
        exact .int _
    · have l1 : ps5.length = 1 := by omega
      obtain ⟨p, rfl⟩ : ∃ p, ps5 = [p] := by
        match ps5, l1 with
        | [p], _ => exact ⟨p, rfl⟩
      cases dp5 with
      | cons h1 h2 =>
        cases h2
        refine iteF (by simp) ⟨_, rfl, D, _, 0, _, rfl, rfl, sq_of hD5, atI_nat (j := 0) rfl, q _ p G5 _ (P5.le (by have : [p].length = 1 := rfl; omega)) h1 (ok5.ok p (List.mem_singleton.mpr rfl)) ?_ ?_⟩
        · have z := ok5.names
          rw [List.flatMap_cons, List.flatMap_nil, List.append_nil] at z
          exact z
        · have z := ok5.dep
          rw [List.map_cons, List.sum_cons] at z
          omega
end BX
/-! the walks: drawn words -/
namespace BX
open PySem PySem.Spec PyProof.Rows L2
abbrev ltr : List Nat := lettersS.cps.toList
theorem ltr_eq : ltr = List.range' 97 26 := by decide +kernel
theorem ltr_len : ltr.length = 26 := by rw [ltr_eq] <;> rfl
theorem ltr_nodup : ltr.Nodup := by
  rw [ltr_eq]
  exact List.nodup_range'
def wordsN : List Str := ["x", "wall", "rest", "box", "parcel", "in", "none", "alone", "top", "label", "by", "one"]
theorem wordsN_split : Txt.split "x wall rest box parcel in none alone top label by one" " " = wordsN := by decide +kernel
theorem wordsN_nodup : wordsN.Nodup := by decide +kernel
theorem wordsN_ok : ∀ z ∈ wordsN, 1 ≤ z.length ∧ z.length ≤ 8 ∧ ∀ c ∈ z.cps.toList, c ∈ ltr := by decide +kernel
theorem map_nodup {f : Nat → Str} {m : Nat} (h : ∀ a b, a < b → b < m → f a ≠ f b) : ((List.range m).map f).Nodup := by
  unfold List.Nodup
  rw [List.pairwise_map]
  refine List.Pairwise.imp_of_mem (R := fun a b => a < b) (fun {a b} _ hb hab => h a b hab (List.mem_range.mp hb)) List.pairwise_lt_range
theorem map_ok {f : Nat → Str} {m : Nat} (h : ∀ a, a < m → IsName (f a)) : ∀ x ∈ (List.range m).map f, IsName x := by
  intro x hx
  obtain ⟨a, ha, rfl⟩ := List.mem_map.mp hx
  exact h a (List.mem_range.mp ha)
theorem range_some (g : Nat → V) (m : Nat) : (List.range m).filterMap (fun i => some (g i)) = (List.range m).map g := by
  induction m with
  | zero => rfl
  | succ m ih =>
    rw [range_fm, ih, List.range_succ, List.map_append] <;> rfl
theorem cut_take (z : Str) (k : Nat) : (cutS z none (some ((k : Nat) : Int))).cps.toList = z.cps.toList.take k := by
  unfold cutS
  rw [HT.sIx_nat, HT.sIx_none, List.drop_zero, Nat.sub_zero]
  show (List.take (min k z.length) z.cps.toList).toArray.toList = _
  rw [show (List.take (min k z.length) z.cps.toList).toArray.toList = List.take (min k z.length) z.cps.toList by simp]
  have e : z.length = z.cps.toList.length := by simp [Str.length]
  rw [e]
  rcases Nat.le_total k z.cps.toList.length with h | h
  · rw [Nat.min_eq_left h]
  · rw [Nat.min_eq_right h, List.take_length, List.take_of_length_le h]
theorem cut_drop (z : Str) (k : Nat) : (cutS z (some ((k : Nat) : Int)) none).cps.toList = z.cps.toList.drop k := by
  unfold cutS
  rw [HT.sIx_nat, HT.sIx_none]
  show (List.take (z.length - min k z.length) (List.drop (min k z.length) z.cps.toList)).toArray.toList = _
  rw [show (List.take (z.length - min k z.length) (List.drop (min k z.length) z.cps.toList)).toArray.toList = List.take (z.length - min k z.length) (List.drop (min k z.length) z.cps.toList) by simp]
  have e : z.length = z.cps.toList.length := by simp [Str.length]
  rw [e, List.take_of_length_le (by rw [List.length_drop]; omega)]
  rcases Nat.le_total k z.cps.toList.length with h | h
  · rw [Nat.min_eq_left h]
  · rw [Nat.min_eq_right h, List.drop_length, List.drop_eq_nil_of_le h]
theorem app_list (a b : Str) : (a ++ b).cps.toList = a.cps.toList ++ b.cps.toList := by simp [Str.cps_append]
theorem len_list (a : Str) : a.length = a.cps.toList.length := by simp [Str.length]
theorem join_one : ∀ cs : List Nat, (Txt.join "" (cs.map fun c => (⟨#[c]⟩ : Str))).cps.toList = cs := by
  intro cs
  rw [TL.join_eq]
  match cs with
  | [] => rfl
  | [c] => rfl
  | c :: d :: r =>
    have ih := join_one (d :: r)
    rw [TL.join_eq] at ih
    show ((⟨#[c]⟩ : Str) ++ Str.ofString "" ++ Str.join "" ((d :: r).map fun c => (⟨#[c]⟩ : Str))).cps.toList = _
    rw [app_list, app_list, ih] <;> rfl
termination_by cs => cs.length
/-- one of the three ways' names -/
def name0 (f k : Nat) : Str := wordsN.getD ((f + 5 * k) % 12) ""
def name1 (s : Str) (f k : Nat) : Str := cutS s none (some ((1 + (f + 3 * k) % 8 : Nat) : Int))
def name2 (s : Str) (at_ f k : Nat) : Str := cutS s none (some ((at_ : Nat) : Int)) ++ ⟨#[ltr.getD ((f + 7 * k) % 26) 0]⟩ ++ cutS s (some ((at_ : Nat) : Int)) none
theorem getD_inj {α : Type} {l : List α} {d : α} (h : l.Nodup) {i j : Nat} (hi : i < l.length) (hj : j < l.length) (e : l.getD i d = l.getD j d) : i = j := by
  rw [List.getD_eq_getElem?_getD, List.getD_eq_getElem?_getD, List.getElem?_eq_getElem hi, List.getElem?_eq_getElem hj] at e
  exact (List.getElem_inj h).mp e
theorem getD_mem {α : Type} {l : List α} {d : α} {i : Nat} (hi : i < l.length) : l.getD i d ∈ l := by
  rw [List.getD_eq_getElem?_getD, List.getElem?_eq_getElem hi]
  exact List.getElem_mem hi
theorem name0_ok {f m : Nat} (hm : m ≤ 12) : ((List.range m).map (name0 f)).Nodup ∧ ∀ x ∈ (List.range m).map (name0 f), IsName x := by
  have l12 : wordsN.length = 12 := rfl
  refine ⟨map_nodup fun a b hab hb e => ?_, map_ok fun a _ => wordsN_ok _ (getD_mem (by rw [l12]; omega))⟩
  have z := getD_inj wordsN_nodup (d := ("" : Str)) (i := (f + 5 * a) % 12) (j := (f + 5 * b) % 12) (by rw [l12]; omega) (by rw [l12]; omega) e
  omega
theorem name1_ok {s : Str} {f m : Nat} (hs : s.cps.toList.length = 8) (hl : ∀ c ∈ s.cps.toList, c ∈ ltr) (hm : m ≤ 8) : ((List.range m).map (name1 s f)).Nodup ∧ ∀ x ∈ (List.range m).map (name1 s f), IsName x := by
  have len : ∀ a, (name1 s f a).cps.toList.length = 1 + (f + 3 * a) % 8 := fun a => by
    unfold name1
    rw [cut_take, List.length_take, hs]
    omega
  refine ⟨map_nodup fun a b hab hb e => ?_, map_ok fun a _ => ?_⟩
  · have z : (name1 s f a).cps.toList.length = (name1 s f b).cps.toList.length := by rw [e]
    rw [len, len] at z
    omega
  · refine ⟨by rw [len_list, len]; omega, by rw [len_list, len]; omega, fun c hc => ?_⟩
    unfold name1 at hc
    rw [cut_take] at hc
    exact hl c (List.mem_of_mem_take hc)
theorem name2_list (s : Str) (at_ f k : Nat) : (name2 s at_ f k).cps.toList = s.cps.toList.take at_ ++ (ltr.getD ((f + 7 * k) % 26) 0 :: s.cps.toList.drop at_) := by
  unfold name2
  rw [app_list, app_list, cut_take, cut_drop, List.append_assoc] <;> rfl
theorem name2_ok {s : Str} {at_ f m : Nat} (hs : s.cps.toList.length ≤ 7) (hl : ∀ c ∈ s.cps.toList, c ∈ ltr) (hm : m ≤ 12) : ((List.range m).map (name2 s at_ f)).Nodup ∧ ∀ x ∈ (List.range m).map (name2 s at_ f), IsName x := by
  have len : ∀ a, (name2 s at_ f a).cps.toList.length = s.cps.toList.length + 1 := fun a => by
    rw [name2_list, List.length_append, List.length_cons, List.length_take, List.length_drop]
    omega
  refine ⟨map_nodup fun a b hab hb e => ?_, map_ok fun a _ => ?_⟩
  · have z : (name2 s at_ f a).cps.toList = (name2 s at_ f b).cps.toList := by rw [e]
    rw [name2_list, name2_list] at z
    have z2 := (List.cons.inj (List.append_cancel_left z)).1
    have z3 := getD_inj ltr_nodup (d := 0) (i := (f + 7 * a) % 26) (j := (f + 7 * b) % 26) (by rw [ltr_len]; omega) (by rw [ltr_len]; omega) z2
    omega
  · refine ⟨by rw [len_list, len]; omega, by rw [len_list, len]; omega, fun c hc => ?_⟩
    rw [name2_list] at hc
    rcases List.mem_append.mp hc with hc | hc
    · exact hl c (List.mem_of_mem_take hc)
    · rcases List.mem_cons.mp hc with hc | hc
      · rw [hc]
        exact getD_mem (by rw [ltr_len]; omega)
      · exact hl c (List.mem_of_mem_drop hc)
theorem andF {c : Bool} {X Y : Prop} (h : c = true → Y → X) (y : Y) : if c = true then X else Y := by
  by_cases e : c = true
  · rw [if_pos e]
    exact h e y
  · rw [if_neg e]
    exact y
theorem str_len {z : Str} {n : Nat} (h : z.cps.toList.length ≤ n) : z.length ≤ n := by
  rw [len_list]
  exact h
def sp_law_names (K : PySem.W.Frag) : Sp := spN 2 fun vs H Q _ => ∃ (G : Hp) (pp : Addr) (m n : Nat), vs = [.ref pp, .int (m : Nat)] ∧ Ex G H ∧ G pp = none ∧ PurseAt H pp n ∧ n ≤ 900000 ∧ m ≤ 12 ∧
  ∀ l (ns : List Str) G' H', Pu pp (n + 12) G H G' H' → G' l = some (.lst (ns.map V.str)) → ns.length = m → ns.Nodup → (∀ x ∈ ns, IsName x) → Q (.ref l) H'
abbrev N_law_names : List Str := ["_law_purse_here", "_law_many", "_law_letters", "_law_way", "_law_first", "_law_stem", "_law_k", "_law_words", "_law_at"]
theorem sc_law_names : FnScope N_law_names ["_law_purse_here", "_law_many"] (defScope s_law_names) := ⟨rfl, rfl, rfl, by decide +kernel, rfl, by decide +kernel, by decide +kernel⟩
theorem w_law_names {P : Program} {w : World} {K : PySem.W.Frag} {mg : Str → Option Value} {base : Heap} (T : Tp K mg) (F_law_take : FnE P w K mg base 1 (He.ga K "_law_take") ["_law_purse_here", "_law_many"] [] (sp_law_take K)) : FnE P w K mg base 2 (He.ga K "_law_names") ["_law_purse_here", "_law_many"] [] (sp_law_names K) := by
  refine fne T.f_law_names sc_law_names (fun _ _ _ _ h => h.1) (fun _ _ _ _ _ _ us hl => match us, hl with | [_, _], _ => rfl) fun cdv A outer s H vs Q E hr hsp => ?_
  have nd := sc_law_names.nd
  refine ⟨_, (pss_cons (pset 2 nd pe_str)
      (pss_cons (pset 3 nd (pcall F_law_take (hr.mono (by decide)) T.g_law_take (pa_cons (pv 0) (pa_cons pe_int pa_nil))))
      (pss_cons (pset 4 nd (pcall F_law_take (hr.mono (by decide)) T.g_law_take (pa_cons (pv 0) (pa_cons pe_int pa_nil))))
      (pss_cons (pset 5 nd (pe_join pe_str (pe_lc (own := [("_law_k", 6)]) (g := gName 6) rfl nd (pi_range1 (by rfl) T.z_range (pa_cons pe_int pa_nil)) (blkOk_by (N := N_law_names) (sc := defScope s_law_names) (by decide +kernel)) (fun _ _ _ _ _ => (pgn 6 nd)) (fun _ _ _ _ _ => pts_nil) (fun _ _ _ _ _ => (pe_ix (r := rIxS) ix_str (pv 2) (pcall F_law_take (hr.mono (by decide)) T.g_law_take (pa_cons (pv 0) (pa_cons pe_int pa_nil))) (fun _ _ => rfl)))) : PE _ _ (tJoin K _ _)))
      (pss_cons (ps_if (pt_cmpR op_eq (pv 3) pe_int (nomark _)) (pss_cons (pset 7 nd (pe_split pe_str pe_str : PE _ _ (tSplit _ _)))
      (pss_one (ps_ret (pe_lc (own := [("_law_k", 6)]) (g := gName 6) rfl nd (pi_range1 (by rfl) T.z_range (pa_cons (pv 1) pa_nil)) (blkOk_by (N := N_law_names) (sc := defScope s_law_names) (by decide +kernel)) (fun _ _ _ _ _ => (pgn 6 nd)) (fun _ _ _ _ _ => pts_nil) (fun _ _ _ _ _ => (pe_ix (r := rIxL K) ix_list (pv 7) (pe_op op_mod (pe_op op_add (pv 4) (pe_op op_mul pe_int (pv 6))) pe_int) (fun _ _ => rfl))))))) pss_nil)
      (pss_cons (ps_if (PW.pt (pw_and (pt_cmpR op_eq (pv 3) pe_int (nomark _)) (pw_and1 (pt_cmpR op_lt (pv 1) pe_int (nomark _))))) (pss_one (ps_ret (pe_lc (own := [("_law_k", 6)]) (g := gName 6) rfl nd (pi_range1 (by rfl) T.z_range (pa_cons (pv 1) pa_nil)) (blkOk_by (N := N_law_names) (sc := defScope s_law_names) (by decide +kernel)) (fun _ _ _ _ _ => (pgn 6 nd)) (fun _ _ _ _ _ => pts_nil) (fun _ _ _ _ _ => (pe_slice (r := rSlS) sl_str (pv 5) po_none (po_some (pe_op op_add pe_int (pe_op op_mod (pe_op op_add (pv 4) (pe_op op_mul pe_int (pv 6))) pe_int)))))))) pss_nil)
      (pss_cons (pset 8 nd (pcall F_law_take (hr.mono (by decide)) T.g_law_take (pa_cons (pv 0) (pa_cons pe_int pa_nil))))
      (pss_cons (pset 5 nd (pe_slice (r := rSlS) sl_str (pv 5) po_none (po_some (pcall F_law_take (hr.mono (by decide)) T.g_law_take (pa_cons (pv 0) (pa_cons pe_int pa_nil))))))
      (pss_one (ps_ret (pe_lc (own := [("_law_k", 6)]) (g := gName 6) rfl nd (pi_range1 (by rfl) T.z_range (pa_cons (pv 1) pa_nil)) (blkOk_by (N := N_law_names) (sc := defScope s_law_names) (by decide +kernel)) (fun _ _ _ _ _ => (pgn 6 nd)) (fun _ _ _ _ _ => pts_nil) (fun _ _ _ _ _ => (pe_op op_add_str (pe_op op_add_str (pe_slice (r := rSlS) sl_str (pv 5) po_none (po_some (pv 8))) (pe_ix (r := rIxS) ix_str (pv 2) (pe_op op_mod (pe_op op_add (pv 4) (pe_op op_mul pe_int (pv 6))) pe_int) (fun _ _ => rfl))) (pe_slice (r := rSlS) sl_str (pv 5) (po_some (pv 8)) po_none)))))))))))))), ?_⟩
  replace hsp := hsp.2
  obtain ⟨G, pp, m, n, rfl, s0, pg, ph, hn, hm, q⟩ := hsp
  have P0 : Pu pp n G H G H := Pu.start s0 pg ph
  refine ⟨_, rfl, rfl, pp, 3, n, rfl, by decide, by decide, ph, by omega, fun w o w0 w1 ho => ?_⟩
  have P1 := P0.draw ho
  refine ⟨_, rfl, rfl, pp, 26, n + 1, rfl, by decide, by decide, P1.ph, by omega, fun f o2 f0 f1 ho2 => ?_⟩
  have P2 := P1.draw ho2
  generalize upd (upd H pp o) pp o2 = H2 at *
  obtain ⟨fN, rfl⟩ : ∃ fN : Nat, f = (fN : Int) := ⟨f.toNat, by omega⟩
  have ret : ∀ (nm : Nat → Str) (H7 H8 : Hp) (D : Addr), Pu pp (n + 12) G H G H7 → H7 D = none → Ex H7 H8 → H8 D = some (.lst ((List.range m).filterMap fun i => some (.str (nm i)))) → ((List.range m).map nm).Nodup ∧ (∀ x ∈ (List.range m).map nm, IsName x) → Q (.ref D) H8 := by
    intro nm H7 H8 D P7 nD e hD ok
    have P8 := P7.exH e
    rw [range_some] at hD
    have hD2 : H8 D = some (.lst (((List.range m).map nm).map V.str)) := by
      rw [hD, List.map_map] <;> rfl
    exact q D ((List.range m).map nm) _ _ (P8.keep (P7.free nD) (back P7.gr.s nD) hD2 (P7.ne nD)) upd_same (by rw [List.length_map, List.length_range]) ok.1 ok.2
  refine ⟨⟨_, rfl⟩, _, rfl, by decide, by decide, fun D nD => lcP (m := some pp) (walk_rg (n := 8)) P2.gr nD P2.hm (by decide)
    (fun j G4 H4 acc => G4 = G ∧ ∃ cs : List Nat, acc = cs.map (fun c => V.str ⟨#[c]⟩) ∧ cs.length = j ∧ (∀ c ∈ cs, c ∈ ltr) ∧ PurseAt H4 pp (n + 2 + j)) (fun _ _ _ _ _ _ _ _ => trivial) ⟨rfl, [], rfl, rfl, (fun _ z => by cases z), P2.ph.upd (P2.ne nD)⟩ (fun j v G4 H4 acc H5 N1 S1 hj g4 e4 gD hD hR hy k1 k2 => ?_) fun G4 H4 acc g4 e4 gD hD hR => ?_⟩
  · obtain ⟨rfl, cs, rfl, cl, cm, p4⟩ := hR
    obtain ⟨rfl, rfl⟩ := hy
    have P4 : Pu pp (n + 2 + j) G4 H G4 H5 := ⟨g4, pg, p4⟩
    have nDp : D ≠ pp := P2.ne nD
    refine ⟨rfl, yes (iteT rfl ⟨_, rfl, _, rfl, rfl, pp, 26, n + 2 + j, rfl, by decide, by decide, p4, by omega, fun d o d0 d1 ho => ?_⟩)⟩
    obtain ⟨dN, rfl⟩ : ∃ dN : Nat, d = (dN : Int) := ⟨d.toNat, by omega⟩
    have hd : dN < ltr.length := by
      rw [ltr_len]
      omega
    refine ⟨lettersS, _, ltr[dN], rfl, rfl, sz_of (by decide +kernel), atI_nat (List.getElem?_eq_getElem hd), k1 _ G4 _ (P4.draw ho).gr e4 gD (by rw [upd_ne nDp]; exact hD) ⟨rfl, cs ++ [ltr[dN]], by rw [List.map_append] <;> rfl, by rw [List.length_append, cl] <;> rfl, fun c hc => ?_, PurseAt.upd (P4.draw ho).ph nDp⟩⟩
    rcases List.mem_append.mp hc with hc | hc
    · exact cm c hc
    · rw [List.mem_singleton.mp hc]
      exact List.getElem_mem hd
  obtain ⟨rfl, cs, rfl, cl, cm, p4⟩ := hR
  have P4 : Pu pp (n + 10) G4 H G4 H4 := ⟨g4, pg, p4⟩
  have nDp : D ≠ pp := P2.ne nD
  refine ⟨_, _, cs.map (fun c => (⟨#[c]⟩ : Str)), rfl, rfl, .inl (sq_of (by rw [hD, List.map_map] <;> rfl)), ?_, ?_⟩
  · have z := sum_le (cs.map fun c => (⟨#[c]⟩ : Str)) 1 fun x hx => by
      obtain ⟨c, _, rfl⟩ := List.mem_map.mp hx
      exact Nat.le_refl _
    have l0 : (Str.ofString "").length = 0 := by decide +kernel
    rw [List.length_map] at z
    rw [l0, Nat.mul_zero]
    omega
  have hst := join_one cs
  generalize Txt.join "" (cs.map fun c => (⟨#[c]⟩ : Str)) = stem at *
  subst hst
  have inr : (-2 ^ 62 : Int) ≤ ((m : Nat) : Int) ∧ ((m : Nat) : Int) < 2 ^ 62 := ⟨by omega, by omega⟩
  have c5 : CMul 5 0 := .inl ⟨by decide, by decide⟩
  rcases (show w = 0 ∨ (w = 1 ∧ m < 9) ∨ (w ≠ 0 ∧ (w = 1 → ¬ m < 9)) by omega) with r | ⟨r, h9⟩ | ⟨r, h9⟩
  · subst r
    refine ⟨_, rfl, rfl, _, rfl, iteT (by decide) ⟨⟨_, rfl⟩, _, _, rfl, rfl, by decide +kernel, sz_of (by decide +kernel), fun p np => ?_⟩⟩
    rw [wordsN_split]
    have P5 := (P4.exH (Ex.new (o := .lst (wordsN.map V.str)) np)).le (n' := n + 12) (by omega)
    refine ⟨_, rfl, _, rfl, inr.1, inr.2, ?_⟩
    rw [Int.toNat_natCast]
    refine fun D2 nD2 => lcE (walk_rg (n := m)) (fun i => some (.str (name0 fN i))) nD2 (sz_lt (by omega)) (fun _ _ => trivial) (fun i x H6 H7 R S hi e6 hy k1 k2 => ?_) fun H6 e6 hD2 => ret (name0 fN) _ _ D2 P5 nD2 e6 hD2 (name0_ok hm)
    obtain ⟨rfl, rfl⟩ := hy
    have ix : (((fN : Nat) : Int) + 5 * ((i : Nat) : Int)) % 12 = (((fN + 5 * i) % 12 : Nat) : Int) := by omega
    have l12 : wordsN.length = 12 := rfl
    refine ⟨rfl, yes (iteT rfl ⟨_, rfl, _, rfl, _, rfl, _, _, rfl, rfl, .inl ⟨by decide, by decide⟩, _, _, rfl, rfl, _, _, rfl, rfl, (show (0 : Int) < 12 by decide), p, _, _, _, rfl, rfl, sq_of (e6 _ _ upd_same), ?_, k1 (.str (name0 fN i)) _ (Ex.refl _) rfl⟩)⟩
    rw [ix]
    refine atI_nat ?_
    rw [List.getElem?_map]
    unfold name0
    rw [List.getD_eq_getElem?_getD, List.getElem?_eq_getElem (by rw [l12]; omega)] <;> rfl
  · subst r
    refine ⟨_, rfl, rfl, _, rfl, iteF (by decide) ⟨_, rfl, rfl, _, rfl, iteT (by decide) ⟨_, rfl, _, _, rfl, rfl, _, rfl, iteT (by simp; omega) ⟨_, rfl, _, rfl, inr.1, inr.2, ?_⟩⟩⟩⟩
    rw [Int.toNat_natCast]
    refine fun D2 nD2 => lcE (walk_rg (n := m)) (fun i => some (.str (name1 stem fN i))) nD2 (sz_lt (by omega)) (fun _ _ => trivial) (fun i x H6 H7 R S hi e6 hy k1 k2 => ?_) fun H6 e6 hD2 => ret (name1 stem fN) _ _ D2 (P4.le (by omega)) nD2 e6 hD2 (name1_ok cl cm (by omega))
    obtain ⟨rfl, rfl⟩ := hy
    have ix : (1 + (((fN : Nat) : Int) + 3 * ((i : Nat) : Int)) % 8) = ((1 + (fN + 3 * i) % 8 : Nat) : Int) := by omega
    refine ⟨rfl, yes (iteT rfl ⟨_, rfl, _, rfl, _, rfl, _, _, rfl, rfl, .inl ⟨by decide, by decide⟩, _, _, rfl, rfl, _, _, rfl, rfl, (show (0 : Int) < 8 by decide), _, _, rfl, rfl, _, rfl, stem, rfl, sz_of (Nat.le_trans (str_len (Nat.le_of_eq cl)) (by decide)), k1 _ _ (Ex.refl _) ?_⟩)⟩
    exact congrArg (fun z => some (V.str (cutS stem none (some z)))) ix.symm
  · refine ⟨_, rfl, rfl, _, rfl, iteF (by simp; exact r) ⟨_, rfl, rfl, _, rfl, andF (fun hc y => ⟨_, rfl, _, _, rfl, rfl, _, rfl, ?_⟩) ?_⟩⟩
    · have w1 : w = 1 := by simpa using hc
      have z : decide (((m : Nat) : Int) < 9) = false := decide_eq_false (by have := h9 w1; omega)
      rw [z]
      exact y
    refine iteF (by decide) ⟨_, rfl, rfl, pp, 8, n + 10, rfl, by decide, by decide, P4.ph, by omega, fun a o3 a0 a1 ho3 => ?_⟩
    have P5 := P4.draw ho3
    refine ⟨_, rfl, _, rfl, rfl, pp, 8, n + 11, rfl, by decide, by decide, P5.ph, by omega, fun b o4 b0 b1 ho4 => ⟨_, rfl, stem, rfl, sz_of (Nat.le_trans (str_len (Nat.le_of_eq cl)) (by decide)), ?_⟩⟩
    have P6 := P5.draw ho4
    obtain ⟨aN, rfl⟩ : ∃ aN : Nat, a = (aN : Int) := ⟨a.toNat, by omega⟩
    obtain ⟨bN, rfl⟩ : ∃ bN : Nat, b = (bN : Int) := ⟨b.toNat, by omega⟩
    have s7 : (cutS stem none (some ((bN : Nat) : Int))).cps.toList.length ≤ 7 := by
      rw [cut_take, List.length_take]
      omega
    have sm : ∀ c ∈ (cutS stem none (some ((bN : Nat) : Int))).cps.toList, c ∈ ltr := fun c hc => by
      rw [cut_take] at hc
      exact cm c (List.mem_of_mem_take hc)
    generalize cutS stem none (some ((bN : Nat) : Int)) = st at *
    have sl : st.length ≤ sizeLine := sz_of (Nat.le_trans (str_len s7) (by decide))
    refine ⟨_, rfl, _, rfl, inr.1, inr.2, ?_⟩
    rw [Int.toNat_natCast]
    refine fun D2 nD2 => lcE (walk_rg (n := m)) (fun i => some (.str (name2 st aN fN i))) nD2 (sz_lt (by omega)) (fun _ _ => trivial) (fun i x H6 H7 R S hi e6 hy k1 k2 => ?_) fun H6 e6 hD2 => ret (name2 st aN fN) _ _ D2 P6 nD2 e6 hD2 (name2_ok s7 sm hm)
    obtain ⟨rfl, rfl⟩ := hy
    have ix : (((fN : Nat) : Int) + 7 * ((i : Nat) : Int)) % 26 = (((fN + 7 * i) % 26 : Nat) : Int) := by omega
    have hd : (fN + 7 * i) % 26 < ltr.length := by
      rw [ltr_len]
      omega
    have lt1 : (cutS st none (some ((aN : Nat) : Int))).length ≤ 7 := str_len (by rw [cut_take, List.length_take]; omega)
    have lt2 : (cutS st (some ((aN : Nat) : Int)) none).length ≤ 7 := str_len (by rw [cut_drop, List.length_drop]; omega)
    have lt3 : (cutS st none (some ((aN : Nat) : Int)) ++ (⟨#[ltr.getD ((fN + 7 * i) % 26) 0]⟩ : Str)).length ≤ 8 := by
      rw [len_app]
      have : (⟨#[ltr.getD ((fN + 7 * i) % 26) 0]⟩ : Str).length = 1 := rfl
      omega
    refine ⟨rfl, yes (iteT rfl ⟨_, rfl, _, rfl, _, rfl, st, rfl, sl, _, rfl, _, rfl, _, rfl, _, _, rfl, rfl, .inl ⟨by decide, by decide⟩, _, _, rfl, rfl, _, _, rfl, rfl, (show (0 : Int) < 26 by decide), lettersS, _, ltr.getD ((fN + 7 * i) % 26) 0, rfl, rfl, sz_of (by decide +kernel), ?_, _, _, rfl, rfl, ?_, ?_⟩)⟩
    · rw [ix]
      refine atI_nat ?_
      rw [List.getD_eq_getElem?_getD, List.getElem?_eq_getElem hd] <;> rfl
    · have : (⟨#[ltr.getD ((fN + 7 * i) % 26) 0]⟩ : Str).length = 1 := rfl
      exact sz_of (by omega)
    · exact ⟨_, rfl, _, rfl, _, rfl, st, rfl, sl, _, _, rfl, rfl, sz_of (by omega), k1 _ _ (Ex.refl _) rfl⟩
end BX
/-! the walks: a drawn heap -/
namespace BX
open PySem PySem.Spec PyProof.Rows L2
section
variable {K : PySem.W.Frag} {G H1 : Hp} {R : Addr → Hp → Prop} {E : XK}
/-- what a new instance's dict and the instance leave -/
theorem made {x dx : Addr} {C : Addr} {fs : List (Str × V)} {H2 : Hp} (nx : H1 x = none) (ndx : H1 dx = none) (hne : dx ≠ x) (e : ExB x (upd (upd H1 dx (.own x)) x (.ins C dx [])) H2) : Ex H1 H2 := fun b o hb => e b o (ne_of_none hb nx) (by rw [upd_ne (ne_of_none hb nx), upd_ne (ne_of_none hb ndx)]; exact hb)
theorem fresh {x dx f : Addr} {C : Addr} (hne : dx ≠ x) (nf : upd (upd H1 dx (.own x)) x (.ins C dx []) f = none) : f ≠ x ∧ f ≠ dx ∧ H1 f = none := by
  have fx : f ≠ x := fun z => by
    rw [z, upd_same] at nf
    cases nf
  have fd : f ≠ dx := fun z => by
    rw [z, upd_ne hne, upd_same] at nf
    cases nf
  rw [upd_ne fx, upd_ne fd] at nf
  exact ⟨fx, fd, nf⟩
theorem mkSides {a b c : Int} (s : Ex G H1) (ha : 1 ≤ a ∧ a ≤ 100000) (hb : 1 ≤ b ∧ b ≤ 100000) (hc : 1 ≤ c ∧ c ≤ 100000) (q : ∀ x G' H', Gr none G H1 G' H' → SidesAt K G' x [a, b, c] → R x H') :
    ∀ x dx, H1 x = none → H1 dx = none → dx ≠ x → sp_Sides_init K (.ref x :: ([.int a, .int b, .int c] ++ [])) (upd (upd H1 dx (.own x)) x (.ins (cS K) dx [])) (fun v H2 => v = .non ∧ R x H2) E := by
  intro x dx nx ndx hne
  refine ⟨rfl, x, dx, a, b, c, rfl, upd_same, ha, hb, hc, fun t H2 nt e ht hx => ⟨rfl, ?_⟩⟩
  obtain ⟨tx, td, nt1⟩ := fresh hne nt
  have e1 : Ex H1 H2 := made (fs := []) nx ndx hne e
  have b1 := ((Gr.start (m := none) s).exH e1).keep nt1 (back s nt1) ht
  have g1 : upd G t (.tup [.int a, .int b, .int c]) x = none := by
    rw [upd_ne tx.symm]
    exact back s nx
  exact q x _ _ (b1.keep nx g1 hx) ⟨dx, t, upd_same, upk upd_same g1, rfl⟩
theorem mkParcel {sa : Addr} {p : Pcl} {lab : V} {ls : Option (List Str)} {dvs as : List V} (has : as ++ dvs = [.str p.name, .ref sa, .int p.w, .int p.h, .int p.b, lab]) (s : Ex G H1) (hs : SidesAt K G sa p.three) (hl : LabsAt H1 lab ls) (ok : PcOk p) (hm : p.marks = marksOf ls) (q : ∀ x G' H', Gr none G H1 G' H' → ParcelAt K G' x p → R x H') :
    ∀ x dx, H1 x = none → H1 dx = none → dx ≠ x → sp_Parcel_init K (.ref x :: (as ++ dvs)) (upd (upd H1 dx (.own x)) x (.ins (cP K) dx [])) (fun v H2 => v = .non ∧ R x H2) E := by
  intro x dx nx ndx hne
  rw [has]
  have e0 : Ex H1 (upd (upd H1 dx (.own x)) x (.ins (cP K) dx [])) := fun b o hb => by
    rw [upd_ne (ne_of_none hb nx), upd_ne (ne_of_none hb ndx)]
    exact hb
  refine ⟨rfl, x, dx, sa, p, lab, ls, rfl, upd_same, hs.ex (s.trans e0), hl.ex e0, ok, hm, fun m H2 nm e hmk hx => ⟨rfl, ?_⟩⟩
  obtain ⟨tx, td, nm1⟩ := fresh hne nm
  have e1 : Ex H1 H2 := made (fs := []) nx ndx hne e
  have b1 := ((Gr.start (m := none) s).exH e1).keep nm1 (back s nm1) hmk
  have g1 : upd G m (.lst (p.marks.map V.str)) x = none := by
    rw [upd_ne tx.symm]
    exact back s nx
  have eG := (Ex.new (o := .lst (p.marks.map V.str)) (back s nm1)).trans (Ex.new (o := .ins (cP K) dx (fldP p sa m)) g1)
  exact q x _ _ (b1.keep nx g1 hx) ⟨dx, sa, m, upd_same, hs.ex eG, upk upd_same g1, ok⟩
theorem mkHeap (s : Ex G H1) (q : ∀ a dx l H', Gr none G H1 (upd G a (.ins (cH K) dx [("held", .ref l)])) H' → H1 l = none → a ≠ l → H' a = some (.ins (cH K) dx [("held", .ref l)]) → H' l = some (.lst []) → R a H') :
    ∀ x dx, H1 x = none → H1 dx = none → dx ≠ x → sp_Heap_init K (.ref x :: ([] ++ [])) (upd (upd H1 dx (.own x)) x (.ins (cH K) dx [])) (fun v H2 => v = .non ∧ R x H2) E := by
  intro x dx nx ndx hne
  refine ⟨rfl, x, dx, rfl, upd_same, fun l nl => ⟨rfl, ?_⟩⟩
  obtain ⟨lx, ld, nl1⟩ := fresh hne nl
  have e1 : Ex H1 (upd (upd (upd (upd H1 dx (.own x)) x (.ins (cH K) dx [])) l (.lst [])) x (.ins (cH K) dx [("held", .ref l)])) := fun b o hb => by
    rw [upd_ne (ne_of_none hb nx), upd_ne (ne_of_none hb nl1), upd_ne (ne_of_none hb nx), upd_ne (ne_of_none hb ndx)]
    exact hb
  exact q x dx l _ (((Gr.start (m := none) s).exH e1).keep nx (back s nx) upd_same) nl1 lx.symm upd_same (by rw [upd_ne lx, upd_same])
end
section
variable {pp : Addr} {n : Nat} {G0 H0 G H : Hp}
theorem Pu.lock {bk : Addr} {u f : HO} (a : Pu pp n G0 H0 G H) (h0 : H0 bk = some u) (hb : H bk = some u) (gb : G bk = none) (nb : bk ≠ pp) : Pu pp n G0 (upd H0 bk f) G (upd H bk f) := by
  obtain ⟨o, ho, h⟩ := a.ph
  refine ⟨⟨a.gr.g, fun x u' hx e => ?_, fun x u' e => ?_, fun x u' e => ?_⟩, a.pg, o, by rw [upd_ne nb.symm]; exact ho, h⟩
  · by_cases z : x = bk
    · rw [z, upd_same] at e
      rw [z, upd_same]
      exact e
    · rw [upd_ne z] at e
      rw [upd_ne z]
      exact a.gr.h x u' hx e
  · have z : x ≠ bk := fun z => by
      rw [z, gb] at e
      cases e
    rw [upd_ne z]
    exact a.gr.s x u' e
  · rcases a.gr.n x u' e with q | q
    · exact .inl q
    · right
      have z : x ≠ bk := fun z => by
        rw [z, h0] at q
        cases q
      rw [upd_ne z]
      exact q
theorem Pu.unlock {bk : Addr} {u f : HO} (a : Pu pp n G0 (upd H0 bk f) G H) (h0 : H0 bk = some u) (gb : G bk = none) (nb : bk ≠ pp) : Pu pp n G0 H0 G (upd H bk u) := by
  obtain ⟨o, ho, h⟩ := a.ph
  refine ⟨⟨a.gr.g, fun x u' hx e => ?_, fun x u' e => ?_, fun x u' e => ?_⟩, a.pg, o, by rw [upd_ne nb.symm]; exact ho, h⟩
  · by_cases z : x = bk
    · rw [z, h0] at e
      rw [z, upd_same]
      exact e
    · rw [upd_ne z]
      exact a.gr.h x u' hx (by rw [upd_ne z]; exact e)
  · have z : x ≠ bk := fun z => by
      rw [z, gb] at e
      cases e
    rw [upd_ne z]
    exact a.gr.s x u' e
  · rcases a.gr.n x u' e with q | q
    · exact .inl q
    · right
      have z : x ≠ bk := fun z => by
        rw [z, upd_same] at q
        cases q
      rw [upd_ne z] at q
      exact q
theorem Pu.exB {l : Addr} {H' : Hp} (a : Pu pp n G0 H0 G H) (e : ExB l H H') (h0 : H0 l = none) (gl : G l = none) (nl : l ≠ pp) : Pu pp n G0 H0 G H' := by
  obtain ⟨o, ho, h⟩ := a.ph
  refine ⟨⟨a.gr.g, fun x u hx hu => e x u (ne_of_none hu h0) (a.gr.h x u hx hu), fun x u hu => e x u (ne_of_none hu gl) (a.gr.s x u hu), a.gr.n⟩, a.pg, o, e _ _ nl.symm ho, h⟩
end
/-! ### books -/
abbrev Bk : Type := List (Str × List Int)
def BkAt (G : Hp) (kv : L2.Key × V) (b : Str × List Int) : Prop := kv.1 = Sum.inr b.1 ∧ ∃ l, kv.2 = .ref l ∧ G l = some (.lst (b.2.map V.int)) ∧ b.2.length = 3
def BsAt (G : Hp) (kvs : List (L2.Key × V)) (bs : Bk) : Prop := Paired (fun kv b => BkAt G kv b) kvs bs
theorem BsAt.ex {G G' : Hp} {kvs : List (L2.Key × V)} {bs : Bk} (h : BsAt G kvs bs) (e : Ex G G') : BsAt G' kvs bs := Paired.mapP h fun _ _ ⟨h1, l, h2, h3, h4⟩ => ⟨h1, l, h2, e _ _ h3, h4⟩
def BookB (B : Int) (bs : Bk) : Prop := ∀ b ∈ bs, ∀ x ∈ b.2, 1 ≤ x ∧ x ≤ B
theorem not_before' : ∀ {cs : List Str} {i : Nat} {c : Str}, cs.Nodup → cs[i]? = some c → c ∉ cs.take i := by
  intro cs i c h hi hm
  obtain ⟨j, hj, e⟩ := List.mem_iff_getElem.mp hm
  rw [List.length_take] at hj
  rw [List.getElem_take] at e
  obtain ⟨hi2, ei⟩ := List.getElem?_eq_some_iff.mp hi
  exact List.pairwise_iff_getElem.mp h j i (by omega) hi2 (by omega) (e.trans ei.symm)
def sp_law_heap (K : PySem.W.Frag) : Sp := spN 2 fun vs H Q _ => ∃ (G : Hp) (pp bk : Addr) (kvs : List (L2.Key × V)) (bs : Bk) (n : Nat), vs = [.ref pp, .ref bk] ∧ Ex G H ∧ G pp = none ∧ PurseAt H pp n ∧ n ≤ 900000 ∧ H bk = some (.dK kvs) ∧ G bk = none ∧ BsAt G kvs bs ∧ BookB 100000 bs ∧ (bs.map (·.1)).Nodup ∧ bs.length ≤ 12 ∧ (∀ b ∈ bs, IsName b.1) ∧
  ∀ a dx l rs ps G' H', Pu pp (n + 36) G H G' H' → G' a = some (.ins (cH K) dx [("held", .ref l)]) → H l = none → G' l = none → H' l = some (.lst (rs.map V.ref)) → PsAt K G' rs ps → ps.map (·.name) = bs.map (·.1) → ps.map (·.three) = bs.map (·.2) → Q (.ref a) H'
abbrev N_law_heap : List Str := ["_law_purse_here", "_law_book_here", "_law_kept", "_law_name", "_law_sides", "_law_marks", "_law_shut"]
theorem sc_law_heap : FnScope N_law_heap ["_law_purse_here", "_law_book_here"] (defScope s_law_heap) := ⟨rfl, rfl, rfl, by decide +kernel, rfl, by decide +kernel, by decide +kernel⟩
theorem w_law_heap {P : Program} {w : World} {K : PySem.W.Frag} {mg : Str → Option Value} {base : Heap} (T : Tp K mg) (F_Heap_init : FnE P w K mg base 1 (He.ma K (He.ga K "Heap") "__init__") ["self"] [] (sp_Heap_init K)) (F_Heap_put : FnE P w K mg base 3 (He.ma K (He.ga K "Heap") "put") ["self", "parcel", "ahead"] [.non] (sp_Heap_put K)) (F_Parcel_init : FnE P w K mg base 2 (He.ma K (He.ga K "Parcel") "__init__") ["self", "name", "sides", "wall", "weight", "bears", "labels"] [] (sp_Parcel_init K)) (F_Sides_init : FnE P w K mg base 2 (He.ma K (He.ga K "Sides") "__init__") ["self", "one", "other", "third"] [] (sp_Sides_init K)) (F_law_take : FnE P w K mg base 1 (He.ga K "_law_take") ["_law_purse_here", "_law_many"] [] (sp_law_take K)) : FnE P w K mg base 4 (He.ga K "_law_heap") ["_law_purse_here", "_law_book_here"] [] (sp_law_heap K) := by
  refine fne T.f_law_heap sc_law_heap (fun _ _ _ _ h => h.1) (fun _ _ _ _ _ _ us hl => match us, hl with | [_, _], _ => rfl) fun cdv A outer s H vs Q E hr hsp => ?_
  have nd := sc_law_heap.nd
  refine ⟨_, (pss_cons (pset 2 nd (pmake0 T.k_Heap F_Heap_init (hr.mono (by decide)) T.g_Heap))
      (pss_cons (ps_lock (ps_for PassesOwn.never rfl (pi_items (pv 1)) (pg_tup rfl (pgs_cons (pgn 3 nd) (pgs_cons (pgn 4 nd) pgs_nil)) : PG _ _ (gTup K _ _)) (pss_cons (pset 5 nd (pe_ix (r := rIxL K) ix_list (pe_lst (pa_cons pe_non (pa_cons (pe_lst (pa_cons pe_str pa_nil)) (pa_cons (pe_tup (pa_cons pe_str (pa_cons pe_str pa_nil))) (pa_cons (pe_lst pa_nil) pa_nil))))) (pcall F_law_take (hr.mono (by decide)) T.g_law_take (pa_cons (pv 0) (pa_cons pe_int pa_nil))) (fun _ _ => rfl)))
      (pss_cons (pset 6 nd (pe_op op_add pe_int (pcall F_law_take (hr.mono (by decide)) T.g_law_take (pa_cons (pv 0) (pa_cons pe_int pa_nil)))))
      (pss_one (ps_expr (pmeth (pv 2) T.c_Heap T.m_Heap_put F_Heap_put (hr.mono (by decide)) (pa_cons (pmake T.k_Parcel F_Parcel_init (hr.mono (by decide)) T.g_Parcel (pa_cons (pv 3) (pa_cons (pmake T.k_Sides F_Sides_init (hr.mono (by decide)) T.g_Sides (pa_cons (pe_ix (r := rIxL K) ix_list (pv 4) pe_int (fun _ _ => rfl)) (pa_cons (pe_ix (r := rIxL K) ix_list (pv 4) pe_int (fun _ _ => rfl)) (pa_cons (pe_ix (r := rIxL K) ix_list (pv 4) pe_int (fun _ _ => rfl)) pa_nil)))) (pa_cons (pv 6) (pa_cons (pcall F_law_take (hr.mono (by decide)) T.g_law_take (pa_cons (pv 0) (pa_cons pe_int pa_nil))) (pa_cons pe_int (pa_cons (pv 5) pa_nil))))))) pa_nil))))))))
      (pss_one (ps_ret (pv 2))))), ?_⟩
  replace hsp := hsp.2
  obtain ⟨G, pp, bk, kvs, bs, n, rfl, s0, pg, ph, hn, hbk, gbk, hbs, bB, bN, b12, bI, q⟩ := hsp
  have P0 : Pu pp n G H G H := Pu.start s0 pg ph
  have bp : bk ≠ pp := by
    obtain ⟨o, ho, _, _, _, rfl, _⟩ := ph
    exact ne_of hbk ho (fun z => nomatch z)
  refine mkHeap s0 fun a dx l H1 g1 nl al ha hl => ?_
  have P1 := P0.pure g1
  have hbk1 := g1.e _ _ hbk
  have gb1 := g1.out gbk hbk
  have bl : bk ≠ l := ne_of_none hbk nl
  have ba : bk ≠ a := ne_of hbk1 ha (fun z => nomatch z)
  have lp : l ≠ pp := P0.ne nl
  refine ⟨bk, .dK kvs, hbk1, trivial, fun od => ⟨_, rfl, bk, od, kvs, rfl, upd_same, ?_⟩⟩
  have PL := P1.lock (f := .frz od (.dK kvs)) hbk hbk1 gb1 bp
  have nlL : upd H bk (.frz od (.dK kvs)) l = none := by
    rw [upd_ne bl.symm]
    exact nl
  refine forE walk_items (fun i σ H' => ∃ G' rs ps o3 o4 o5 o6, σ = [some (.ref pp), some (.ref bk), some (.ref a), o3, o4, o5, o6] ∧ Pu pp (n + 3 * i) G (upd H bk (.frz od (.dK kvs))) G' H' ∧ Ex (upd G a (.ins (cH K) dx [("held", .ref l)])) G' ∧ H' bk = some (.frz od (.dK kvs)) ∧ G' bk = none ∧ G' l = none ∧ H' l = some (.lst (rs.map V.ref)) ∧ PsAt K G' rs ps ∧ ps.map (·.name) = (bs.take i).map (·.1) ∧ ps.map (·.three) = (bs.take i).map (·.2))
    ⟨_, [], [], none, none, none, none, rfl, PL, Ex.refl _, upd_same, gb1, by rw [upd_ne al.symm]; exact back s0 nl, by rw [upd_ne bl.symm]; exact hl, .nil, rfl, rfl⟩ (fun i σ H' _ pv => ?_) (fun i z σ H2 H3 N hi pv hy k1 => ?_) fun σ H' pv => ?_
  · obtain ⟨_, _, _, _, _, _, _, _, _, _, h, _⟩ := pv
    exact h
  · obtain ⟨G1, rs, ps, o3, o4, o5, o6, rfl, P, e1, hb2, gb2, gl2, hl2, hps, pn, pt⟩ := pv
    obtain ⟨T0, y1, y2, rfl, nT, rfl, h1, h2⟩ := hy
    obtain ⟨⟨kv1, kv2⟩, hkv, hy1⟩ := Option.map_eq_some_iff.mp h1
    replace h2 : (kvs[i]?).map Prod.snd = some y2 := h2
    rw [hkv] at h2
    have hy2 : kv2 = y2 := Option.some.inj h2
    obtain ⟨⟨nm, s3⟩, hb, ek, sl, ev, hsl, hs3⟩ := pr_at (hbs.ex (g1.g.trans e1)) hkv
    replace ek : kv1 = Sum.inr nm := ek
    replace ev : kv2 = .ref sl := ev
    subst ek
    subst ev
    subst hy2
    replace hy1 : V.str nm = y1 := hy1
    subst hy1
    have ib : i < bs.length := (List.getElem?_eq_some_iff.mp hb).1
    have hbm : (nm, s3) ∈ bs := List.mem_of_getElem? hb
    obtain ⟨x, y, z, rfl⟩ := three_of hs3
    have bx := bB _ hbm x (by simp)
    have by' := bB _ hbm y (by simp)
    have bz := bB _ hbm z (by simp)
    -- the pair, the labels' display
    have P2 := P.exH (Ex.new (o := .tup [.str nm, .ref sl]) nT)
    refine ⟨T0, _, rfl, st_of upd_same, rfl, _, _, rfl, _, _, rfl, rfl, ?_⟩
    have hb3 := upk (x := .tup [.str nm, .ref sl]) hb2 nT
    have hl3 := upk (x := .tup [.str nm, .ref sl]) hl2 nT
    generalize upd H2 T0 (.tup [.str nm, .ref sl]) = H3 at *
    refine ⟨szl (by simp), fun m1 n1 => ⟨szl (by simp), fun m2 n2 => ⟨szl (by simp), fun m3 n3 => ⟨szl (by simp), fun m4 n4 => ?_⟩⟩⟩⟩
    have P3 := (((P2.exH (Ex.new (o := .lst [.str "alone"]) n1)).exH (Ex.new (o := .tup [.str "upright", .str "top"]) n2)).exH (Ex.new (o := .lst []) n3)).exH (Ex.new (o := .lst [.non, .ref m1, .ref m2, .ref m3]) n4)
    have nm1 : m1 ≠ pp := P2.ne n1
    have nm2 : m2 ≠ pp := (P2.exH (Ex.new n1)).ne n2
    have nm3 : m3 ≠ pp := ((P2.exH (Ex.new n1)).exH (Ex.new n2)).ne n3
    have nm4 : m4 ≠ pp := (((P2.exH (Ex.new n1)).exH (Ex.new n2)).exH (Ex.new n3)).ne n4
    have q1 := upk (x := .lst [.non, .ref m1, .ref m2, .ref m3]) (upk (x := .lst []) (upk (x := .tup [.str "upright", .str "top"]) (upd_same (H := H3) (a := m1) (o := .lst [.str "alone"])) n2) n3) n4
    have q2 := upk (x := .lst [.non, .ref m1, .ref m2, .ref m3]) (upk (x := .lst []) (upd_same (H := upd H3 m1 (.lst [.str "alone"])) (a := m2) (o := .tup [.str "upright", .str "top"])) n3) n4
    have q3 := upk (x := .lst [.non, .ref m1, .ref m2, .ref m3]) (upd_same (H := upd (upd H3 m1 (.lst [.str "alone"])) m2 (.tup [.str "upright", .str "top"])) (a := m3) (o := .lst [])) n4
    have q4 := upd_same (H := upd (upd (upd H3 m1 (.lst [.str "alone"])) m2 (.tup [.str "upright", .str "top"])) m3 (.lst [])) (a := m4) (o := .lst [.non, .ref m1, .ref m2, .ref m3])
    have hb4 := upk (x := .lst [.non, .ref m1, .ref m2, .ref m3]) (upk (x := .lst []) (upk (x := .tup [.str "upright", .str "top"]) (upk (x := .lst [.str "alone"]) hb3 n1) n2) n3) n4
    have hl4 := upk (x := .lst [.non, .ref m1, .ref m2, .ref m3]) (upk (x := .lst []) (upk (x := .tup [.str "upright", .str "top"]) (upk (x := .lst [.str "alone"]) hl3 n1) n2) n3) n4
    generalize upd (upd (upd (upd H3 m1 (.lst [.str "alone"])) m2 (.tup [.str "upright", .str "top"])) m3 (.lst [])) m4 (.lst [.non, .ref m1, .ref m2, .ref m3]) = H4 at *
    refine ⟨_, rfl, rfl, pp, 4, n + 3 * i, rfl, by decide, by decide, P3.ph, by omega, fun d o d0 d1 ho => ?_⟩
    have P4 := P3.draw ho
    have r1 : upd H4 pp o m1 = some (.lst [.str "alone"]) := by rw [upd_ne nm1]; exact q1
    have r2 : upd H4 pp o m2 = some (.tup [.str "upright", .str "top"]) := by rw [upd_ne nm2]; exact q2
    have r3 : upd H4 pp o m3 = some (.lst []) := by rw [upd_ne nm3]; exact q3
    have r4 : upd H4 pp o m4 = some (.lst [.non, .ref m1, .ref m2, .ref m3]) := by rw [upd_ne nm4]; exact q4
    have rb : upd H4 pp o bk = some (.frz od (.dK kvs)) := by rw [upd_ne bp]; exact hb4
    have rl : upd H4 pp o l = some (.lst (rs.map V.ref)) := by rw [upd_ne lp]; exact hl4
    generalize upd H4 pp o = H5 at *
    obtain ⟨v, ls, hv, hlab⟩ : ∃ v ls, atI [V.non, .ref m1, .ref m2, .ref m3] d = some v ∧ ∀ H', H' m1 = some (.lst [.str "alone"]) → H' m2 = some (.tup [.str "upright", .str "top"]) → H' m3 = some (.lst []) → LabsAt H' v ls := by
      rcases (show d = 0 ∨ d = 1 ∨ d = 2 ∨ d = 3 by omega) with r | r | r | r <;> subst r
      · exact ⟨.non, none, atI_nat (j := 0) rfl, fun _ _ _ _ => rfl⟩
      · exact ⟨.ref m1, some ["alone"], atI_nat (j := 1) rfl, fun _ w1 _ _ => ⟨m1, rfl, .inl w1, by decide +kernel, by decide, by decide +kernel⟩⟩
      · exact ⟨.ref m2, some ["upright", "top"], atI_nat (j := 2) rfl, fun _ _ w2 _ => ⟨m2, rfl, .inr w2, by decide +kernel, by decide, by decide +kernel⟩⟩
      · exact ⟨.ref m3, some [], atI_nat (j := 3) rfl, fun _ _ _ w3 => ⟨m3, rfl, .inl w3, by decide +kernel, by decide, by decide +kernel⟩⟩
    refine ⟨m4, _, d, v, rfl, rfl, sq_of r4, hv, ?_⟩
    refine ⟨_, rfl, rfl, pp, 1000, n + 3 * i + 1, rfl, by decide, by decide, P4.ph, by omega, fun d2 o2 d20 d21 ho2 => ⟨_, _, rfl, rfl, ?_⟩⟩
    have P5 := P4.draw ho2
    have s1 : upd H5 pp o2 m1 = some (.lst [.str "alone"]) := by rw [upd_ne nm1]; exact r1
    have s2 : upd H5 pp o2 m2 = some (.tup [.str "upright", .str "top"]) := by rw [upd_ne nm2]; exact r2
    have s3 : upd H5 pp o2 m3 = some (.lst []) := by rw [upd_ne nm3]; exact r3
    have sb : upd H5 pp o2 bk = some (.frz od (.dK kvs)) := by rw [upd_ne bp]; exact rb
    have sl' : upd H5 pp o2 l = some (.lst (rs.map V.ref)) := by rw [upd_ne lp]; exact rl
    generalize upd H5 pp o2 = H6 at *
    have a6 : H6 a = some (.ins (cH K) dx [("held", .ref l)]) := P5.gr.s _ _ (e1 _ _ upd_same)
    have sq : SqL K H6 sl ([x, y, z].map V.int) := sq_of (P5.gr.s _ _ hsl)
    refine ⟨_, rfl, a, dx, _, rfl, a6, rfl, _, rfl, _, rfl, sl, _, 0, _, rfl, rfl, sq, atI_nat (j := 0) rfl, _, rfl, sl, _, 1, _, rfl, rfl, sq, atI_nat (j := 1) rfl, _, rfl, sl, _, 2, _, rfl, rfl, sq, atI_nat (j := 2) rfl, ?_⟩
    refine mkSides P5.gr.s bx by' bz fun xs G7 H7 g7 hxs => ?_
    have P7 := P5.pure g7
    refine ⟨_, rfl, _, rfl, rfl, pp, 100001, n + 3 * i + 1 + 1, rfl, by decide, by decide, P7.ph, by omega, fun d3 o3' d30 d31 ho3 => ⟨_, rfl, ?_⟩⟩
    have P8 := P7.draw ho3
    have t1 : upd H7 pp o3' m1 = some (.lst [.str "alone"]) := by rw [upd_ne nm1]; exact g7.e _ _ s1
    have t2 : upd H7 pp o3' m2 = some (.tup [.str "upright", .str "top"]) := by rw [upd_ne nm2]; exact g7.e _ _ s2
    have t3 : upd H7 pp o3' m3 = some (.lst []) := by rw [upd_ne nm3]; exact g7.e _ _ s3
    have tb : upd H7 pp o3' bk = some (.frz od (.dK kvs)) := by rw [upd_ne bp]; exact g7.e _ _ sb
    have tl : upd H7 pp o3' l = some (.lst (rs.map V.ref)) := by rw [upd_ne lp]; exact g7.e _ _ sl'
    have gb7 := g7.out gb2 sb
    have gl7 := g7.out gl2 sl'
    generalize upd H7 pp o3' = H8 at *
    obtain ⟨k1', k2'⟩ := marks_ok ls
    have ok : PcOk (⟨nm, [x, y, z], 1 + d2, d3, 7, marksOf ls⟩ : Pcl) := ⟨bI _ hbm, rfl, fun j hj => bB _ hbm j hj, ⟨by show 1 ≤ 1 + d2; omega, by show 1 + d2 ≤ 1000; omega⟩, ⟨d30, by show d3 ≤ 100000; omega⟩, ⟨(by decide : (0 : Int) ≤ 7), (by decide : (7 : Int) ≤ 100000)⟩, k1', k2'⟩
    refine mkParcel (p := ⟨nm, [x, y, z], 1 + d2, d3, 7, marksOf ls⟩) (ls := ls) rfl P8.gr.s hxs (hlab H8 t1 t2 t3) ok rfl fun xp G9 H9 g9 hxp => ?_
    have P9 := P8.pure g9
    have e9 := g7.g.trans g9.g
    have hps9 := hps.ex e9
    have lps : ps.length = i := by
      have := congrArg List.length pn
      rw [List.length_map, List.length_map, List.length_take] at this
      omega
    have hh : HeapIn K H9 a dx l rs ps := ⟨P9.gr.s _ _ (e9 _ _ (e1 _ _ upd_same)), g9.e _ _ tl, hps9.ex P9.gr.s, by omega⟩
    refine ⟨rfl, a, dx, l, rs, ps, xp, _, rfl, hh, hxp.ex P9.gr.s, ?_, by omega, fun H10 e10 hl10 => ?_⟩
    · show nm ∉ ps.map (·.name)
      rw [pn, List.map_take]
      exact not_before' bN (by rw [List.getElem?_map, hb] <;> rfl)
    · have gb9 := g9.out gb7 tb
      have gl9 := g9.out gl7 tl
      have P10 := (P9.exB e10 nlL gl9 lp).le (n' := n + 3 * (i + 1)) (by omega)
      refine k1 _ _ ⟨G9, rs ++ [xp], ps ++ [_], _, _, _, _, rfl, P10, e1.trans e9, e10 _ _ bl (g9.e _ _ tb), gb9, gl9, hl10, pr_app hps9 (.cons hxp .nil), ?_, ?_⟩
      · rw [List.map_append, pn, take_snoc hb, List.map_append] <;> rfl
      · rw [List.map_append, pt, take_snoc hb, List.map_append] <;> rfl
  · obtain ⟨G1, rs, ps, o3, o4, o5, o6, rfl, P, e1, hb2, gb2, gl2, hl2, hps, pn, pt⟩ := pv
    have lb : kvs.length = bs.length := hbs.length
    rw [lb] at pn pt P
    rw [List.take_length] at pn pt
    have P11 := (P.unlock hbk gb2 bp).le (n' := n + 36) (by omega)
    refine ⟨hb2, _, rfl, q a dx l rs ps G1 _ P11 (e1 _ _ upd_same) nl gl2 (by rw [upd_ne bl.symm]; exact hl2) hps pn pt⟩
end BX
/-! the walks: a drawn book -/
namespace BX
open PySem PySem.Spec PyProof.Rows L2
def formsM : List (List Int) := [[4, 2, 11], [3, 2, 11], [6, 3, 11], [1, 3, 11]]
theorem forms_ok : ∀ f ∈ formsM, f.length = 3 ∧ ∀ x ∈ f, 1 ≤ x ∧ x ≤ 11 := by decide
theorem BsAt.keys {G : Hp} : ∀ {kvs : List (L2.Key × V)} {bs : Bk}, BsAt G kvs bs → kvs.map (·.1) = bs.map fun b => Sum.inr b.1
  | _, _, .nil => rfl
  | _, _, .cons ⟨h, _⟩ t => by
    rw [List.map_cons, List.map_cons, h, BsAt.keys t]
theorem valK_no {kvs : List (L2.Key × V)} {k : L2.Key} (h : k ∉ kvs.map (·.1)) : valV kvs k = none := by
  induction kvs with
  | nil => rfl
  | cons p r ih => rw [valV_neg (fun e => h (by rw [← e]; exact List.mem_cons_self ..)), ih fun z => h (List.mem_cons_of_mem _ z)]
theorem bs_put {G : Hp} {nm : Str} {v : Addr} {xs : List Int} (hv : G v = some (.lst (xs.map V.int))) (hx : xs.length = 3) : ∀ {kvs : List (L2.Key × V)} {bs : Bk}, BsAt G kvs bs → BsAt G (kvs.map fun kv => if kv.1 = Sum.inr nm then (kv.1, .ref v) else kv) (bs.map fun b => if b.1 = nm then (b.1, xs) else b)
  | _, _, .nil => .nil
  | kv :: kvs, b :: bs, .cons ⟨h1, l, h2, h3, h4⟩ t => by
    rw [List.map_cons, List.map_cons]
    refine .cons ?_ (bs_put hv hx t)
    by_cases e : b.1 = nm
    · have e2 : kv.1 = Sum.inr nm := by rw [h1, e]
      rw [if_pos e, if_pos e2]
      exact ⟨h1, v, rfl, hv, hx⟩
    · have e2 : ¬ kv.1 = Sum.inr nm := fun z => e (Sum.inr.inj (h1.symm.trans z))
      rw [if_neg e, if_neg e2]
      exact ⟨h1, l, h2, h3, h4⟩
theorem bs_put_keys (nm : Str) (xs : List Int) (bs : Bk) : (bs.map fun b => if b.1 = nm then (b.1, xs) else b).map (·.1) = bs.map (·.1) := by
  rw [List.map_map]
  apply List.map_congr_left
  intro b _
  show (if b.1 = nm then (b.1, xs) else b).1 = b.1
  split <;> rfl
theorem bs_put_B {B : Int} {nm : Str} {xs : List Int} {bs : Bk} (h : BookB B bs) (hx : ∀ x ∈ xs, 1 ≤ x ∧ x ≤ B) : BookB B (bs.map fun b => if b.1 = nm then (b.1, xs) else b) := by
  intro b hb x hxb
  obtain ⟨c, hc, rfl⟩ := List.mem_map.mp hb
  by_cases e : c.1 = nm
  · rw [if_pos e] at hxb
    exact hx x hxb
  · rw [if_neg e] at hxb
    exact h c hc x hxb
theorem bs_has {G : Hp} {kvs : List (L2.Key × V)} {bs : Bk} {nm : Str} (h : BsAt G kvs bs) (hm : nm ∈ bs.map (·.1)) : (kvs.any fun kv => decide (kv.1 = Sum.inr nm)) = true := by
  rw [List.any_eq_true]
  have : (Sum.inr nm : L2.Key) ∈ kvs.map (·.1) := by
    rw [BsAt.keys h]
    obtain ⟨b, hb, e⟩ := List.mem_map.mp hm
    exact List.mem_map.mpr ⟨b, hb, by rw [e]⟩
  obtain ⟨kv, hkv, e⟩ := List.mem_map.mp this
  exact ⟨kv, hkv, by simpa using e⟩
def capM (k : Nat) : Int := 100000 / (k : Nat)
def sp_law_book (K : PySem.W.Frag) : Sp := spN 3 fun vs H Q _ => ∃ (G : Hp) (pp th tn : Addr) (hs ns : List Str) (n : Nat), vs = [.ref pp, .ref th, .ref tn] ∧ Ex G H ∧ G pp = none ∧ PurseAt H pp n ∧ n ≤ 700000 ∧ G th = some (.lst (hs.map V.str)) ∧ G tn = some (.lst (ns.map V.str)) ∧ hs.Nodup ∧ hs.length ≤ 12 ∧ 1 ≤ ns.length ∧ ns.length ≤ 4 ∧ (∀ x ∈ ns, x ∈ hs) ∧
  ∀ bk kvs bs G' H', Pu pp (n + 100) G H G' H' → H bk = none → G' bk = none → H' bk = some (.dK kvs) → BsAt G' kvs bs → bs.map (·.1) = hs → BookB (capM ns.length) bs → Q (.ref bk) H'
/-- the rest of the def, behind the choice of its greatest side and of bricks -/
def ts_book (K : PySem.W.Frag) : TS :=
  tSeq (tAsg tDNewK (gName 6)) (tSeq (tFor (iList K (tVar 1)) (gName 7) (sDPut (tVar 6) (tVar 7) (tCall (sp_law_three K) [] E0 (tCons (tVar 0) (tCons (tVar 4) tNil)))))
    (tSeq (tAsg (tIf (tB (tVar 5)) (tOp (rI0 fun i j => V.int (i + j)) (tC (V.int 1)) (tCall (sp_law_take K) [] E0 (tCons (tVar 0) (tCons (tC (V.int 2000)) tNil)))) (tC (V.int 0))) (gName 8))
      (tSeq (tFor (iZipLT K (tCons (tCall (sp_law_picked K) [] E0 (tCons (tVar 0) (tCons (tVar 2) (tCons (tCB (rLenQ K) (tCons (tVar 2) tNil)) tNil)))) (tCons (tVar 3) tNil))) (gTup K 2 (gCons (gName 7) (gCons (gName 9) gNil)))
          (tSeq (tAsg (tOp (rIxL K) (tCall (sp_law_orders K) [] E0 tNil) (tCall (sp_law_take K) [] E0 (tCons (tVar 0) (tCons (tC (V.int 6)) tNil)))) (gName 10))
            (tIfS (tB (tVar 5)) (sDPut (tVar 6) (tVar 7) (tLc (iTup K (tVar 10)) (gName 11) tYes (tOp (rI CMul fun i j => V.int (i * j)) (tOp (rIxT K) (tVar 9) (tVar 11)) (tVar 8)) [11])) tNext)))
        (tRet (tVar 6)))))
theorem book_tail {K : PySem.W.Frag} {G H G5 H5 : Hp} {pp th tn ft : Addr} {hs ns : List Str} {n : Nat} {most : Int} {b : Bool} {fs : List Addr} {Q : VK} {nx : L2.St → Hp → Prop} (P : Pu pp n G H G5 H5) (hn : n ≤ 800000) (hth : G5 th = some (.lst (hs.map V.str))) (htn : G5 tn = some (.lst (ns.map V.str)))
    (hft : G5 ft = some (.tup (fs.map V.ref))) (hF : Paired (fun a f => G5 a = some (.tup (f.map V.int))) fs formsM) (hN : hs.Nodup) (h12 : hs.length ≤ 12) (n1 : 1 ≤ ns.length) (n4 : ns.length ≤ 4) (hsub : ∀ x ∈ ns, x ∈ hs) (m1 : 12 ≤ most) (m2 : most ≤ 100000) (m3 : most ≤ capM ns.length) (hb : b = true → ns.length = 4)
    (q : ∀ bk kvs bs G' H', Pu pp (n + 90) G H G' H' → H bk = none → G' bk = none → H' bk = some (.dK kvs) → BsAt G' kvs bs → bs.map (·.1) = hs → BookB (capM ns.length) bs → Q (.ref bk) H') :
    ts_book K { nx := nx, rt := Q } [some (.ref pp), some (.ref th), some (.ref tn), some (.ref ft), some (.int most), some (.bl b), none, none, none, none, none, none] H5 := by
  intro bk nbk
  have bp : bk ≠ pp := P.ne nbk
  have bH : H bk = none := P.free nbk
  have bG : G5 bk = none := back P.gr.s nbk
  have P0 := P.put (o := .dK []) bH bG bp
  refine ⟨_, rfl, th, rfl, ⟨_, sq_of (P0.gr.s _ _ hth)⟩, forE (walk_list (xs := hs.map V.str)) (fun i σ H' => ∃ G' o7 kvs bs, σ = [some (.ref pp), some (.ref th), some (.ref tn), some (.ref ft), some (.int most), some (.bl b), some (.ref bk), o7, none, none, none, none] ∧ Pu pp (n + 6 * i) G H G' H' ∧ Ex G5 G' ∧ G' bk = none ∧ H' bk = some (.dK kvs) ∧ BsAt G' kvs bs ∧ bs.map (·.1) = hs.take i ∧ BookB (capM ns.length) bs)
    ⟨G5, none, [], [], rfl, P0, Ex.refl _, bG, upd_same, .nil, rfl, (fun _ z => by cases z)⟩ (fun i σ H' _ pv => ?_) (fun i z σ H6 H7 N hi pv hy k1 => ?_) fun σ H' pv => ?_⟩
  · obtain ⟨G', _, _, _, _, p, e, _⟩ := pv
    exact sq_of (p.gr.s _ _ (e _ _ hth))
  · obtain ⟨G6, o7, kvs, bs, rfl, P6, e6, gb6, hb6, hbs, hk, hB⟩ := pv
    obtain ⟨rfl, hy⟩ := hy
    rw [List.getElem?_map] at hy
    obtain ⟨nm, hnm, rfl⟩ := Option.map_eq_some_iff.mp hy
    rw [List.length_map] at hi
    refine ⟨_, rfl, _, rfl, rfl, G6, pp, most, n + 6 * i, rfl, P6.gr.s, P6.pg, P6.ph, by omega, m1, m2, fun l x y z G8 H8 P8 hl bx by' bz => ?_⟩
    have hb8 := P8.hold bp hb6
    have gb8 := P8.out gb6 hb6
    have P9 := P6.trans P8
    have hv : valV kvs (Sum.inr nm) = none := by
      refine valK_no ?_
      rw [BsAt.keys hbs]
      intro hm
      obtain ⟨c, hc, e⟩ := List.mem_map.mp hm
      have : nm ∈ hs.take i := by
        rw [← hk, ← Sum.inr.inj e]
        exact List.mem_map_of_mem hc
      exact not_before' hN hnm this
    have lk : kvs.length ≤ 12 := by
      have z1 := congrArg List.length hk
      rw [List.length_map, List.length_take] at z1
      have z2 : kvs.length = bs.length := hbs.length
      omega
    have pu := DPut.k (v := .ref l) (k := Sum.inr nm) hb8 (sz_lt (by omega))
    rw [putK_new _ hv] at pu
    refine ⟨_, rfl, _, rfl, bk, _, rfl, pu, k1 _ _ ⟨G8, _, _, bs ++ [(nm, [x, y, z])], rfl, (P9.le (by omega)).put bH gb8 bp, e6.trans P8.gr.g, gb8, upd_same, pr_app (hbs.ex P8.gr.g) (.cons ⟨rfl, l, rfl, hl, rfl⟩ .nil), ?_, fun c hc w hw => ?_⟩⟩
    · rw [List.map_append, hk, take_snoc hnm] <;> rfl
    · rcases List.mem_append.mp hc with hc | hc
      · exact hB c hc w hw
      · rw [List.mem_singleton.mp hc] at hw
        simp only [List.mem_cons, List.not_mem_nil, or_false] at hw
        rcases hw with r | r | r <;> (rw [r]; omega)
  · obtain ⟨G6, o7, kvs, bs, rfl, P6, e6, gb6, hb6, hbs, hk, hB⟩ := pv
    rw [List.length_map] at hk P6
    rw [List.take_length] at hk
    -- how often
    have go : ∀ (ti : Int) (H7 : Hp), (b = true → 1 ≤ ti ∧ ti ≤ 2000) → Pu pp (n + 73) G H G6 H7 → H7 bk = some (.dK kvs) → _ := fun ti H7 ht P7 hb7 => (?_ : (tSeq (tFor (iZipLT K (tCons (tCall (sp_law_picked K) [] E0 (tCons (tVar 0) (tCons (tVar 2) (tCons (tCB (rLenQ K) (tCons (tVar 2) tNil)) tNil)))) (tCons (tVar 3) tNil))) (gTup K 2 (gCons (gName 7) (gCons (gName 9) gNil)))
          (tSeq (tAsg (tOp (rIxL K) (tCall (sp_law_orders K) [] E0 tNil) (tCall (sp_law_take K) [] E0 (tCons (tVar 0) (tCons (tC (V.int 6)) tNil)))) (gName 10))
            (tIfS (tB (tVar 5)) (sDPut (tVar 6) (tVar 7) (tLc (iTup K (tVar 10)) (gName 11) tYes (tOp (rI CMul fun i j => V.int (i * j)) (tOp (rIxT K) (tVar 9) (tVar 11)) (tVar 8)) [11])) tNext)))
        (tRet (tVar 6))) { nx := nx, rt := Q } [some (.ref pp), some (.ref th), some (.ref tn), some (.ref ft), some (.int most), some (.bl b), some (.ref bk), o7, some (.int ti), none, none, none] H7)
    · refine ⟨_, rfl, _, rfl, ?_⟩
      have P6' := P6.le (n' := n + 72) (by omega)
      cases b with
      | true =>
        exact iteT rfl ⟨_, rfl, rfl, pp, 2000, n + 72, rfl, by decide, by decide, P6'.ph, by omega, fun d o d0 d1 ho => ⟨_, _, rfl, rfl, go (1 + d) _ (fun _ => ⟨by omega, by omega⟩) (P6'.draw ho) (by rw [upd_ne bp]; exact hb6)⟩⟩
      | false => exact iteF (by decide) (go 0 _ (fun z => by cases z) (P6'.le (by omega)) hb6)
    refine ⟨_, rfl, _, rfl, _, rfl, tn, _, rfl, .inl (sq_of (P7.gr.s _ _ (e6 _ _ htn))), rfl, G6, pp, tn, ns, ns.length, n + 73, by rw [List.length_map] <;> rfl, P7.gr.s, P7.pg, P7.ph, by omega, e6 _ _ htn, by omega, Nat.le_refl _, fun lx xs G8 H8 P8 hlx xl ⟨rest, xp⟩ => ?_⟩
    have P9 := P7.trans P8
    have hb8 := P8.hold bp hb7
    have gb8 := P8.out gb6 hb7
    have e8 := e6.trans P8.gr.g
    have hft8 := P9.gr.s _ _ (e8 _ _ hft)
    refine ⟨_, rfl, lx, ft, _, _, rfl, sq_of (P9.gr.s _ _ hlx), st_of hft8, forE (walk_zipLT (xs := xs.map V.str) (ys := fs.map V.ref) (n := ns.length) (by rw [List.length_map, List.length_map, hF.length, xl]; show min ns.length 4 = ns.length; omega)) (fun i σ H' => ∃ G' p7 p9 p10 p11 kvs bs, σ = [some (.ref pp), some (.ref th), some (.ref tn), some (.ref ft), some (.int most), some (.bl b), some (.ref bk), p7, some (.int ti), p9, p10, p11] ∧ Pu pp (n + 73 + ns.length + i) G H G' H' ∧ Ex G8 G' ∧ G' bk = none ∧ H' bk = some (.dK kvs) ∧ BsAt G' kvs bs ∧ bs.map (·.1) = hs ∧ BookB (capM ns.length) bs)
      ⟨G8, _, _, _, _, kvs, bs, rfl, P9, Ex.refl _, gb8, hb8, hbs.ex P8.gr.g, hk, hB⟩ (fun i σ H' _ pv => ?_) (fun i z σ H9 H10 N hi pv hy k1 => ?_) fun σ H' pv => ?_⟩
    · obtain ⟨G', _, _, _, _, _, _, _, p, e, _⟩ := pv
      exact ⟨sq_of (p.gr.s _ _ (e _ _ hlx)), st_of (p.gr.s _ _ (e _ _ (e8 _ _ hft)))⟩
    · obtain ⟨G10, p7, p9, p10, p11, kvs2, bs2, rfl, P10, e10, gb10, hb10, hbs10, hk10, hB10⟩ := pv
      obtain ⟨T0, y1, y2, rfl, nT, rfl, h1, h2⟩ := hy
      replace h1 : (xs.map V.str)[i]? = some y1 := h1
      replace h2 : (fs.map V.ref)[i]? = some y2 := h2
      rw [List.getElem?_map] at h1 h2
      obtain ⟨nm, hnm, rfl⟩ := Option.map_eq_some_iff.mp h1
      obtain ⟨fa, hfa, rfl⟩ := Option.map_eq_some_iff.mp h2
      obtain ⟨fm, hfm, hfat⟩ := pr_at hF hfa
      obtain ⟨fl, fbd⟩ := forms_ok fm (List.mem_of_getElem? hfm)
      have P11 := P10.exH (Ex.new (o := .tup [.str nm, .ref fa]) nT)
      have hb11 := upk (x := .tup [.str nm, .ref fa]) hb10 nT
      have hmem : nm ∈ hs := hsub nm (xp.subset (List.mem_append_left _ (List.mem_of_getElem? hnm)))
      refine ⟨T0, _, rfl, st_of upd_same, rfl, _, _, rfl, _, _, rfl, rfl, ?_⟩
      generalize upd H9 T0 (.tup [.str nm, .ref fa]) = H11 at *
      refine ⟨rfl, G10, rfl, P11.gr.s, fun lo G12 H12 g12 ⟨as, ha, hp⟩ => ?_⟩
      have P12 := P11.pure g12
      have hb12 := g12.e _ _ hb11
      have gb12 := g12.out gb10 hb11
      refine ⟨_, rfl, rfl, pp, 6, _, rfl, by decide, by decide, P12.ph, by omega, fun d o d0 d1 ho => ?_⟩
      have P13 := P12.draw ho
      have hb13 : upd H12 pp o bk = some (.dK kvs2) := by
        rw [upd_ne bp]
        exact hb12
      have la : (as.map V.ref).length = 6 := by rw [List.length_map, hp.length] <;> rfl
      obtain ⟨w, hw, hs'⟩ := get_toNat (l := as.map V.ref) d0 (by rw [la]; exact d1)
      rw [List.getElem?_map] at hw
      obtain ⟨oa, hoa, rfl⟩ := Option.map_eq_some_iff.mp hw
      obtain ⟨od, hod, hot⟩ := pr_at hp hoa
      have hom : od ∈ ordersM := List.mem_of_getElem? hod
      have ed : d = ((d.toNat : Nat) : Int) := by omega
      refine ⟨lo, _, d, .ref oa, rfl, rfl, sq_of (P13.gr.s _ _ ha), by rw [ed]; exact atI_nat (by rw [List.getElem?_map, hoa] <;> rfl), _, rfl, _, rfl, ?_⟩
      generalize upd H12 pp o = H13 at *
      have P13' := P13.le (n' := n + 73 + ns.length + (i + 1)) (by omega)
      cases b with
      | false => exact iteF (by decide) (k1 _ _ ⟨G12, _, _, _, _, kvs2, bs2, rfl, P13', e10.trans g12.g, gb12, hb13, hbs10.ex g12.g, hk10, hB10⟩)
      | true =>
        obtain ⟨t1, t2⟩ := ht rfl
        have l3 := orders_len od hom
        have hoT : H13 oa = some (.tup (natsV od)) := P13.gr.s _ _ hot
        have hfT : H13 fa = some (.tup (fm.map V.int)) := P13.gr.s _ _ (g12.g _ _ (e10 _ _ (e8 _ _ hfat)))
        refine iteT rfl ⟨_, rfl, oa, rfl, ⟨_, st_of hoT⟩, fun D nD => lcE (walk_tup (xs := natsV od)) (fun j => (od[j]?).map fun k => V.int (gN fm k * ti)) nD (sz_lt (by unfold natsV; rw [List.length_map]; omega)) (fun H14 e => st_of (e _ _ hoT)) (fun j v H14 H15 R S hj e14 hy14 kk1 kk2 => ?_) fun H14 e14 hD => ?_⟩
        · obtain ⟨rfl, hy14⟩ := hy14
          unfold natsV at hy14
          rw [List.getElem?_map] at hy14
          obtain ⟨kk, hkk, rfl⟩ := Option.map_eq_some_iff.mp hy14
          have klt := orders_lt od hom kk (List.mem_of_getElem? hkk)
          exact ⟨rfl, yes (iteT rfl ⟨_, rfl, _, rfl, fa, _, _, _, rfl, rfl, st_of (e14 _ _ hfT), vi_get (by rw [fl]; exact klt), _, rfl, _, _, rfl, rfl, .inr ⟨by omega, by omega⟩, kk1 _ _ (Ex.refl _) (by rw [hkk] <;> rfl)⟩)⟩
        · unfold natsV at hD
          rw [List.length_map, fm_map] at hD
          have hD2 : H14 D = some (.lst ((od.map fun k => gN fm k * ti).map V.int)) := by
            rw [hD, List.map_map] <;> rfl
          have P14 := P13'.exH e14
          have nDp := P13'.ne nD
          have DH := P13'.free nD
          have DG : G12 D = none := back P13.gr.s nD
          have hb14 := e14 _ _ hb13
          have P15 := P14.keep DH DG hD2 nDp
          have Db : D ≠ bk := ne_of hD2 hb14 (fun z => nomatch z)
          have lk : kvs2.length ≤ 12 := by
            have z1 := congrArg List.length hk10
            rw [List.length_map] at z1
            have z2 : kvs2.length = bs2.length := hbs10.length
            omega
          have pu := DPut.k (v := .ref D) (k := Sum.inr nm) hb14 (sz_lt (by omega))
          have hm2 : nm ∈ bs2.map (·.1) := by
            rw [hk10]
            exact hmem
          unfold putK at pu
          rw [if_pos (bs_has hbs10 hm2)] at pu
          have eD := Ex.new (o := .lst ((od.map fun k => gN fm k * ti).map V.int)) DG
          have gb15 : upd G12 D (.lst ((od.map fun k => gN fm k * ti).map V.int)) bk = none := by
            rw [upd_ne Db.symm]
            exact gb12
          refine ⟨_, rfl, _, rfl, bk, _, rfl, pu, k1 _ _ ⟨_, _, _, _, _, _, _, rfl, P15.put bH gb15 bp, (e10.trans g12.g).trans eD, gb15, upd_same, bs_put upd_same (by rw [List.length_map, l3]) ((hbs10.ex g12.g).ex eD), by rw [bs_put_keys, hk10], bs_put_B hB10 fun x hx => ?_⟩⟩
          obtain ⟨kk, hkk, rfl⟩ := List.mem_map.mp hx
          have klt := orders_lt od hom kk hkk
          have gm : gN fm kk ∈ fm := List.mem_of_getElem? (gN_get (l := fm) (k := kk) (by rw [fl]; exact klt))
          obtain ⟨b1, b2⟩ := fbd _ gm
          have u1 : gN fm kk * ti ≤ 11 * 2000 := Int.mul_le_mul b2 t2 (by omega) (by omega)
          have u2 : 1 * 1 ≤ gN fm kk * ti := Int.mul_le_mul b1 t1 (by omega) (by omega)
          have c4 : capM ns.length = 25000 := by
            rw [hb rfl] <;> rfl
          rw [c4]
          omega
    · obtain ⟨G10, p7, p9, p10, p11, kvs2, bs2, rfl, P10, e10, gb10, hb10, hbs10, hk10, hB10⟩ := pv
      exact ⟨_, rfl, q bk kvs2 bs2 G10 H' (P10.le (by omega)) bH gb10 hb10 hbs10 hk10 hB10⟩
abbrev N_law_book : List Str := ["_law_purse_here", "_law_held_here", "_law_names_here", "_law_forms", "_law_most", "_law_bricks", "_law_book_here", "_law_name", "_law_times", "_law_brick", "_law_order", "_law_number"]
theorem sc_law_book : FnScope N_law_book ["_law_purse_here", "_law_held_here", "_law_names_here"] (defScope s_law_book) := ⟨rfl, rfl, rfl, by decide +kernel, rfl, by decide +kernel, by decide +kernel⟩
theorem w_law_book {P : Program} {w : World} {K : PySem.W.Frag} {mg : Str → Option Value} {base : Heap} (T : Tp K mg) (F_law_orders : FnE P w K mg base 1 (He.ga K "_law_orders") [] [] (sp_law_orders K)) (F_law_picked : FnE P w K mg base 2 (He.ga K "_law_picked") ["_law_purse_here", "_law_names_here", "_law_many"] [] (sp_law_picked K)) (F_law_take : FnE P w K mg base 1 (He.ga K "_law_take") ["_law_purse_here", "_law_many"] [] (sp_law_take K)) (F_law_three : FnE P w K mg base 2 (He.ga K "_law_three") ["_law_purse_here", "_law_most"] [] (sp_law_three K)) : FnE P w K mg base 3 (He.ga K "_law_book") ["_law_purse_here", "_law_held_here", "_law_names_here"] [] (sp_law_book K) := by
  refine fne T.f_law_book sc_law_book (fun _ _ _ _ h => h.1) (fun _ _ _ _ _ _ us hl => match us, hl with | [_, _, _], _ => rfl) fun cdv A outer s H vs Q E hr hsp => ?_
  have nd := sc_law_book.nd
  refine ⟨_, (pss_cons (pset 3 nd (pe_tup (pa_cons (pe_tup (pa_cons pe_int (pa_cons pe_int (pa_cons pe_int pa_nil)))) (pa_cons (pe_tup (pa_cons pe_int (pa_cons pe_int (pa_cons pe_int pa_nil)))) (pa_cons (pe_tup (pa_cons pe_int (pa_cons pe_int (pa_cons pe_int pa_nil)))) (pa_cons (pe_tup (pa_cons pe_int (pa_cons pe_int (pa_cons pe_int pa_nil)))) pa_nil))))))
      (pss_cons (pset 4 nd (pe_ifExp (pt_cmpR op_eq (pe_callB (r := rLenQ K) cLenQ (by rfl) T.z_len (by decide +kernel) (pa_cons (pv 2) pa_nil)) pe_int (nomark _)) pe_int (pe_op op_fdiv pe_int (pe_callB (r := rLenQ K) cLenQ (by rfl) T.z_len (by decide +kernel) (pa_cons (pv 2) pa_nil)))))
      (pss_cons (pset 5 nd (pe_and (pe_cmpR op_eq (pe_callB (r := rLenQ K) cLenQ (by rfl) T.z_len (by decide +kernel) (pa_cons (pv 2) pa_nil)) pe_int (nomark _)) (pe_one (pe_cmpR op_eq (pcall F_law_take (hr.mono (by decide)) T.g_law_take (pa_cons (pv 0) (pa_cons pe_int pa_nil))) pe_int (nomark _)))))
      (pss_cons (pset 6 nd pe_dnewK)
      (pss_cons (ps_for PassesOwn.never rfl (pi_list (pv 1) : PI _ _ _ (iList K _)) (pgn 7 nd) (pss_one (ps_dput (hu_of hr) (pv 6) (pv 7) (pcall F_law_three (hr.mono (by decide)) T.g_law_three (pa_cons (pv 0) (pa_cons (pv 4) pa_nil))) rfl)))
      (pss_cons (pset 8 nd (pe_ifExp (pt_val (pv 5)) (pe_op op_add pe_int (pcall F_law_take (hr.mono (by decide)) T.g_law_take (pa_cons (pv 0) (pa_cons pe_int pa_nil)))) pe_int))
      (pss_cons (ps_for PassesOwn.never rfl (pi_zipLT (by rfl) T.z_zip (pa_cons (pcall F_law_picked (hr.mono (by decide)) T.g_law_picked (pa_cons (pv 0) (pa_cons (pv 2) (pa_cons (pe_callB (r := rLenQ K) cLenQ (by rfl) T.z_len (by decide +kernel) (pa_cons (pv 2) pa_nil)) pa_nil)))) (pa_cons (pv 3) pa_nil)) : PI _ _ _ (iZipLT K _)) (pg_tup rfl (pgs_cons (pgn 7 nd) (pgs_cons (pgn 9 nd) pgs_nil)) : PG _ _ (gTup K _ _)) (pss_cons (pset 10 nd (pe_ix (r := rIxL K) ix_list (pcall0 F_law_orders (hr.mono (by decide)) T.g_law_orders) (pcall F_law_take (hr.mono (by decide)) T.g_law_take (pa_cons (pv 0) (pa_cons pe_int pa_nil))) (fun _ _ => rfl)))
      (pss_one (ps_if (pt_val (pv 5)) (pss_one (ps_dput (hu_of hr) (pv 6) (pv 7) (pe_lc (own := [("_law_number", 11)]) (g := gName 11) rfl nd (pi_tup (pv 10) : PI _ _ _ (iTup K _)) (blkOk_by (N := N_law_book) (sc := defScope s_law_book) (by decide +kernel)) (fun _ _ _ _ _ => (pgn 11 nd)) (fun _ _ _ _ _ => pts_nil) (fun _ _ _ _ _ => (pe_op op_mul (pe_ix (r := rIxT K) ix_tup (pv 9) (pv 11) (fun _ _ => rfl)) (pv 8)))) rfl)) pss_nil))))
      (pss_one (ps_ret (pv 6)))))))))), ?_⟩
  replace hsp := hsp.2
  obtain ⟨G, pp, th, tn, hs, ns, n, rfl, s0, pg, ph, hn, hth, htn, hN, h12, n1, n4, hsub, q⟩ := hsp
  have P0 : Pu pp n G H G H := Pu.start s0 pg ph
  have lV : (ns.map V.str).length = ns.length := List.length_map _
  -- the forms
  refine ⟨szl (by simp), fun f1 m1 => ⟨szl (by simp), fun f2 m2 => ⟨szl (by simp), fun f3 m3 => ⟨szl (by simp), fun f4 m4 => ⟨szl (by simp), fun ft mt => ?_⟩⟩⟩⟩⟩
  have P1 := P0.new (o := .tup ([4, 2, 11].map V.int)) m1
  have P2 := P1.new (o := .tup ([3, 2, 11].map V.int)) m2
  have P3 := P2.new (o := .tup ([6, 3, 11].map V.int)) m3
  have P4 := P3.new (o := .tup ([1, 3, 11].map V.int)) m4
  have P5 := P4.new (o := .tup ([f1, f2, f3, f4].map V.ref)) mt
  have k2 := Ex.new (o := .tup ([3, 2, 11].map V.int)) (back P1.gr.s m2)
  have k3 := Ex.new (o := .tup ([6, 3, 11].map V.int)) (back P2.gr.s m3)
  have k4 := Ex.new (o := .tup ([1, 3, 11].map V.int)) (back P3.gr.s m4)
  have k5 := Ex.new (o := .tup ([f1, f2, f3, f4].map V.ref)) (back P4.gr.s mt)
  have hF : Paired (fun a f => upd (upd (upd (upd (upd G f1 (.tup ([4, 2, 11].map V.int))) f2 (.tup ([3, 2, 11].map V.int))) f3 (.tup ([6, 3, 11].map V.int))) f4 (.tup ([1, 3, 11].map V.int))) ft (.tup ([f1, f2, f3, f4].map V.ref)) a = some (.tup (f.map V.int))) [f1, f2, f3, f4] formsM :=
    .cons (k5 _ _ (k4 _ _ (k3 _ _ (k2 _ _ upd_same)))) (.cons (k5 _ _ (k4 _ _ (k3 _ _ upd_same))) (.cons (k5 _ _ (k4 _ _ upd_same)) (.cons (k5 _ _ upd_same) .nil)))
  have hft : upd (upd (upd (upd (upd G f1 (.tup ([4, 2, 11].map V.int))) f2 (.tup ([3, 2, 11].map V.int))) f3 (.tup ([6, 3, 11].map V.int))) f4 (.tup ([1, 3, 11].map V.int))) ft (.tup ([f1, f2, f3, f4].map V.ref)) ft = some (.tup ([f1, f2, f3, f4].map V.ref)) := upd_same
  have eG := P5.gr.g
  generalize upd (upd (upd (upd (upd G f1 (.tup ([4, 2, 11].map V.int))) f2 (.tup ([3, 2, 11].map V.int))) f3 (.tup ([6, 3, 11].map V.int))) f4 (.tup ([1, 3, 11].map V.int))) ft (.tup ([f1, f2, f3, f4].map V.ref)) = G5 at *
  have hth5 := eG _ _ hth
  have htn5 := eG _ _ htn
  have chg : ∀ {X : Hp → Prop}, X (upd (upd (upd (upd (upd H f1 (.tup ([4, 2, 11].map V.int))) f2 (.tup ([3, 2, 11].map V.int))) f3 (.tup ([6, 3, 11].map V.int))) f4 (.tup ([1, 3, 11].map V.int))) ft (.tup ([f1, f2, f3, f4].map V.ref))) → X (upd (upd (upd (upd (upd H f1 (.tup [.int 4, .int 2, .int 11])) f2 (.tup [.int 3, .int 2, .int 11])) f3 (.tup [.int 6, .int 3, .int 11])) f4 (.tup [.int 1, .int 3, .int 11])) ft (.tup [.ref f1, .ref f2, .ref f3, .ref f4])) := fun h => h
  refine chg (X := fun H => tSeq _ _ _ _ H) ?_
  generalize upd (upd (upd (upd (upd H f1 (.tup ([4, 2, 11].map V.int))) f2 (.tup ([3, 2, 11].map V.int))) f3 (.tup ([6, 3, 11].map V.int))) f4 (.tup ([1, 3, 11].map V.int))) ft (.tup ([f1, f2, f3, f4].map V.ref)) = H5 at *
  have htn6 : H5 tn = some (.lst (ns.map V.str)) := P5.gr.s _ _ htn5
  have fin : ∀ (most : Int) (b : Bool) (H6 : Hp), Pu pp (n + 1) G H G5 H6 → 12 ≤ most → most ≤ 100000 → most ≤ capM ns.length → (b = true → ns.length = 4) → ts_book K { nx := fun x H' => Q V.non H', rt := Q } [some (.ref pp), some (.ref th), some (.ref tn), some (.ref ft), some (.int most), some (.bl b), none, none, none, none, none, none] H6 :=
    fun most b H6 P6 a1 a2 a3 a4 => book_tail P6 (by omega) hth5 htn5 hft hF hN h12 n1 n4 hsub a1 a2 a3 a4 fun bk kvs bs G' H' P' z1 z2 z3 z4 z5 z6 => q bk kvs bs G' H' (P'.le (by omega)) z1 z2 z3 z4 z5 z6
  by_cases four : ns.length = 4
  · have dt : decide (V.int (((ns.map V.str).length : Nat) : Int) = V.int 4) = true := by
      rw [lV, four] <;> rfl
    have c4 : capM ns.length = 25000 := by rw [four] <;> rfl
    refine ⟨_, rfl, tn, _, rfl, .inl (sq_of htn6), rfl, _, rfl, iteT dt ?_⟩
    refine ⟨_, rfl, tn, _, rfl, .inl (sq_of htn6), rfl, _, rfl, iteT dt ⟨_, rfl, rfl, pp, 2, n, rfl, by decide, by decide, P5.ph, by omega, fun d o d0 d1 ho => ⟨rfl, ?_⟩⟩⟩
    exact fin 12 _ _ (P5.draw ho) (by decide) (by decide) (by rw [c4]; decide) fun _ => four
  · have df : ¬ decide (V.int (((ns.map V.str).length : Nat) : Int) = V.int 4) = true := by
      rw [lV]
      simp
      omega
    refine ⟨_, rfl, tn, _, rfl, .inl (sq_of htn6), rfl, _, rfl, iteF df ⟨_, rfl, tn, _, rfl, .inl (sq_of htn6), _, _, rfl, rfl, ⟨by rw [lV]; omega, by rw [lV]; omega⟩, ?_⟩⟩
    refine ⟨_, rfl, tn, _, rfl, .inl (sq_of htn6), rfl, _, rfl, iteF df ?_⟩
    rw [lV]
    have c : (100000 : Int) / ((ns.length : Nat) : Int) = capM ns.length := rfl
    have bnd : 12 ≤ capM ns.length ∧ capM ns.length ≤ 100000 := by
      rcases (show ns.length = 1 ∨ ns.length = 2 ∨ ns.length = 3 by omega) with r | r | r <;> (rw [r]; decide)
    exact fin (capM ns.length) false _ (P5.le (by omega)) bnd.1 bnd.2 (Int.le_refl _) fun z => by cases z
end BX
/-! the mathematics: the sorted ones -/
namespace BX
open PySem
theorem dl_total {β : Type} (rev : Bool) (k : β → PyData) (a b : β) : (PySem.W.dataLe rev k a b || PySem.W.dataLe rev k b a) = true := by
  rw [Bool.or_eq_true]
  exact (PySem.W.sortLe_total (PyProof.Rows.listOrd PyProof.Rows.itemOrd) rev fun b => PySem.W.keyToks (k b)).total a b
theorem dl_trans {β : Type} (rev : Bool) (k : β → PyData) (a b c : β) (h1 : PySem.W.dataLe rev k a b = true) (h2 : PySem.W.dataLe rev k b c = true) : PySem.W.dataLe rev k a c = true :=
  (PySem.W.sortLe_total (PyProof.Rows.listOrd PyProof.Rows.itemOrd) rev fun b => PySem.W.keyToks (k b)).trans a b c h1 h2
theorem dl_anti {β : Type} {rev : Bool} {k : β → PyData} {a b : β} (h1 : PySem.W.dataLe rev k a b = true) (h2 : PySem.W.dataLe rev k b a = true) : PySem.W.keyToks (k a) = PySem.W.keyToks (k b) := by
  have T := (PyProof.Rows.listOrd PyProof.Rows.itemOrd).total
  cases rev with
  | false =>
    have e1 : (PyProof.Rows.listOrd PyProof.Rows.itemOrd).blt (PySem.W.keyToks (k b)) (PySem.W.keyToks (k a)) = false := by simpa [PySem.W.dataLe, PySem.W.sortLe] using h1
    have e2 : (PyProof.Rows.listOrd PyProof.Rows.itemOrd).blt (PySem.W.keyToks (k a)) (PySem.W.keyToks (k b)) = false := by simpa [PySem.W.dataLe, PySem.W.sortLe] using h2
    exact T _ _ e2 e1
  | true =>
    have e1 : (PyProof.Rows.listOrd PyProof.Rows.itemOrd).blt (PySem.W.keyToks (k a)) (PySem.W.keyToks (k b)) = false := by simpa [PySem.W.dataLe, PySem.W.sortLe] using h1
    have e2 : (PyProof.Rows.listOrd PyProof.Rows.itemOrd).blt (PySem.W.keyToks (k b)) (PySem.W.keyToks (k a)) = false := by simpa [PySem.W.dataLe, PySem.W.sortLe] using h2
    exact T _ _ e1 e2
theorem srt_perm {β : Type} {rev : Bool} {k : β → PyData} (inj : ∀ a b, PySem.W.keyToks (k a) = PySem.W.keyToks (k b) → a = b) {l m : List β} (h : l.Perm m) : l.mergeSort (PySem.W.dataLe rev k) = m.mergeSort (PySem.W.dataLe rev k) :=
  List.Perm.eq_of_pairwise (le := fun a b => PySem.W.dataLe rev k a b = true) (fun a b _ _ h1 h2 => inj a b (dl_anti h1 h2)) (List.pairwise_mergeSort (dl_trans rev k) (dl_total rev k) l) (List.pairwise_mergeSort (dl_trans rev k) (dl_total rev k) m) (((List.mergeSort_perm l _).trans h).trans (List.mergeSort_perm m _).symm)
theorem srtI_perm {b : Bool} {l m : List Int} (h : l.Perm m) : srtI b l = srtI b m := srt_perm (fun a b e => by
  have e1 : [Sum.inl (β := List Nat) a] = [Sum.inl b] := e
  exact Sum.inl.inj (List.cons.inj e1).1) h
theorem srtS_perm {l m : List Str} (h : l.Perm m) : srtS l = srtS m := srt_perm (fun a b e => by
  have e1 : [Sum.inr (α := Int) a.cps.toList] = [Sum.inr b.cps.toList] := e
  have e2 := Sum.inr.inj (List.cons.inj e1).1
  obtain ⟨x⟩ := a
  obtain ⟨y⟩ := b
  have e3 : x.toList = y.toList := e2
  rw [Array.toList_inj.mp e3]) h
theorem srtI_self {b : Bool} (l : List Int) : (srtI b l).Perm l := List.mergeSort_perm l _
/-- falling -/
theorem srtI_down (l : List Int) : (srtI true l).Pairwise fun a b => b ≤ a := by
  refine List.Pairwise.imp (fun {a b} h => ?_) (List.pairwise_mergeSort (dl_trans true PyData.int) (dl_total true PyData.int) l)
  have e1 : (PyProof.Rows.listOrd PyProof.Rows.itemOrd).blt (PySem.W.keyToks (.int a)) (PySem.W.keyToks (.int b)) = false := by simpa [PySem.W.dataLe, PySem.W.sortLe] using h
  have e2 : PyProof.Rows.itemLt (.inl a) (.inl b) = false := by
    rw [← PySem.W.lex_one]
    exact e1
  have e3 : decide (a < b) = false := e2
  have := of_decide_eq_false e3
  omega
theorem srtI_up (l : List Int) : (srtI false l).Pairwise fun a b => a ≤ b := by
  refine List.Pairwise.imp (fun {a b} h => ?_) (List.pairwise_mergeSort (dl_trans false PyData.int) (dl_total false PyData.int) l)
  have e1 : (PyProof.Rows.listOrd PyProof.Rows.itemOrd).blt (PySem.W.keyToks (.int b)) (PySem.W.keyToks (.int a)) = false := by simpa [PySem.W.dataLe, PySem.W.sortLe] using h
  have e2 : PyProof.Rows.itemLt (.inl b) (.inl a) = false := by
    rw [← PySem.W.lex_one]
    exact e1
  have e3 : decide (b < a) = false := e2
  have := of_decide_eq_false e3
  omega
theorem sorted_ord : ∀ o ∈ ordersM, srtI false (o.map fun k : Nat => (k : Int)) = [0, 1, 2] := by
  intro o ho
  have hp : (o.map fun k : Nat => (k : Int)).Perm [0, 1, 2] := by
    revert o
    decide
  refine List.Perm.eq_of_pairwise (le := fun a b : Int => a ≤ b) (fun a b _ _ h1 h2 => by omega) (srtI_up _) (by decide) ((srtI_self _).trans hp)
end BX
/-! the walks: the law's spans, names, orders -/
namespace BX
open PySem PySem.Spec PyProof.Rows L2
def sidesB (bs : Bk) (n : Str) : List Int := ((bs.find? fun b => decide (b.1 = n)).map (·.2)).getD []
theorem bs_get {G : Hp} {n : Str} : ∀ {kvs : List (L2.Key × V)} {bs : Bk}, BsAt G kvs bs → n ∈ bs.map (·.1) → ∃ l, valV kvs (Sum.inr n) = some (.ref l) ∧ G l = some (.lst ((sidesB bs n).map V.int)) ∧ (sidesB bs n).length = 3
  | _, _, .nil, h => by cases h
  | kv :: kvs, b :: bs, .cons ⟨h1, l, h2, h3, h4⟩ t, h => by
    by_cases e : b.1 = n
    · have s : sidesB (b :: bs) n = b.2 := by
        unfold sidesB
        rw [List.find?_cons_of_pos (by simpa using e)] <;> rfl
      rw [s]
      exact ⟨l, by rw [valV_pos (by rw [h1, e]), h2], h3, h4⟩
    · have s : sidesB (b :: bs) n = sidesB bs n := by
        unfold sidesB
        rw [List.find?_cons_of_neg (by simpa using e)]
      have h5 : n ∈ bs.map (·.1) := by
        rcases List.mem_cons.mp h with z | z
        · exact absurd z.symm e
        · exact z
      obtain ⟨l2, g1, g2, g3⟩ := bs_get t h5
      rw [s]
      exact ⟨l2, by rw [valV_neg (fun z => e (Sum.inr.inj (h1.symm.trans z))), g1], g2, g3⟩
theorem span_len {sides : Str → List Int} : ∀ {p : Pap}, papOk p → (spanM sides p).length = 3
  | .one _ o, h => by
    show (turnM _ o).length = 3
    rw [turnM_len, orders_len o h]
  | .by _ _ _, _ => rfl
def sr_law_span (K : PySem.W.Frag) : Nat → Sp
  | 0 => fun _ _ _ _ => False
  | dp + 1 => spN 2 fun vs H Q _ => ∃ (G : Hp) (bk : Addr) (kvs : List (L2.Key × V)) (bs : Bk) (v : V) (p : Pap), vs = [.ref bk, v] ∧ Ex G H ∧ H bk = some (.dK kvs) ∧ BsAt G kvs bs ∧ Dp K G v (papD p) ∧ papOk p ∧ papDep p ≤ dp + 1 ∧ (∀ n ∈ papN p, n ∈ bs.map (·.1)) ∧
    ∀ l H', H l = none → Ex H H' → H' l = some (.lst ((spanM (sidesB bs) p).map V.int)) → Q (.ref l) H'
abbrev sp_law_span (K : PySem.W.Frag) : Sp := sr_law_span K 5
abbrev N_law_span : List Str := ["_law_book_here", "_law_paper", "_law_sides", "_law_number", "_law_first", "_law_second", "_law_found", "_law_k"]
theorem sc_law_span : FnScope N_law_span ["_law_book_here", "_law_paper"] (defScope s_law_span) := ⟨rfl, rfl, rfl, by decide +kernel, rfl, by decide +kernel, by decide +kernel⟩
theorem w_law_span {P : Program} {w : World} {K : PySem.W.Frag} {mg : Str → Option Value} {base : Heap} (T : Tp K mg)  : ∀ dp, FnE P w K mg base (dp + 0) (He.ga K "_law_span") ["_law_book_here", "_law_paper"] [] (sr_law_span K dp)
| 0 => fneF T.f_law_span (fun vs H Q E h => h.elim) (fun _ _ _ _ _ _ us hl => match us, hl with | [_, _], _ => rfl)
| dp + 1 => by
  have F_law_span := w_law_span (P := P) (w := w) (base := base) T  dp
  refine fne T.f_law_span sc_law_span (fun _ _ _ _ h => h.1) (fun _ _ _ _ _ _ us hl => match us, hl with | [_, _], _ => rfl) fun cdv A outer s H vs Q E hr hsp => ?_
  have nd := sc_law_span.nd
  refine ⟨_, (pss_cons (ps_if (pt_cmpR op_eq (pe_ix (r := rIxT K) ix_tup (pv 1) pe_int (fun _ _ => rfl)) pe_str (nomark _)) (pss_cons (pset 2 nd (pe_dget (hu_of hr) (pv 0) (pe_ix (r := rIxT K) ix_tup (pv 1) pe_int (fun _ _ => rfl)) (fun _ _ => rfl)))
      (pss_one (ps_ret (pe_lc (own := [("_law_number", 3)]) (g := gName 3) rfl nd (pi_tup (pe_ix (r := rIxT K) ix_tup (pv 1) pe_int (fun _ _ => rfl)) : PI _ _ _ (iTup K _)) (blkOk_by (N := N_law_span) (sc := defScope s_law_span) (by decide +kernel)) (fun _ _ _ _ _ => (pgn 3 nd)) (fun _ _ _ _ _ => pts_nil) (fun _ _ _ _ _ => (pe_ix (r := rIxL K) ix_list (pv 2) (pv 3) (fun _ _ => rfl))))))) pss_nil)
      (pss_cons (pset 4 nd (pcall F_law_span (hr.mono (by omega)) T.g_law_span (pa_cons (pv 0) (pa_cons (pe_ix (r := rIxT K) ix_tup (pv 1) pe_int (fun _ _ => rfl)) pa_nil))))
      (pss_cons (pset 5 nd (pcall F_law_span (hr.mono (by omega)) T.g_law_span (pa_cons (pv 0) (pa_cons (pe_ix (r := rIxT K) ix_tup (pv 1) pe_int (fun _ _ => rfl)) pa_nil))))
      (pss_cons (ps_setLc (i := 6) (own := [("_law_k", 7)]) (g := gName 7) rfl nd rfl rfl (sw_true rfl rfl rfl (by decide +kernel)) (pi_range1 (by rfl) T.z_range (pa_cons pe_int pa_nil)) (blkOk_by (N := N_law_span) (sc := defScope s_law_span) (by decide +kernel)) (fun _ _ _ _ _ => (pgn 7 nd)) (fun _ _ _ _ _ => pts_nil) (fun _ _ _ _ _ => (pe_callB (r := rMax2) (cMax2 rfl) (by rfl) T.z_max (by decide +kernel) (pa_cons (pe_ix (r := rIxL K) ix_list (pv 4) (pv 7) (fun _ _ => rfl)) (pa_cons (pe_ix (r := rIxL K) ix_list (pv 5) (pv 7) (fun _ _ => rfl)) pa_nil)))))
      (pss_cons (ps_asg (pe_op op_add (pe_ix (r := rIxL K) ix_list (pv 4) (pe_ix (r := rIxT K) ix_tup (pv 1) pe_int (fun _ _ => rfl)) (fun _ _ => rfl)) (pe_ix (r := rIxL K) ix_list (pv 5) (pe_ix (r := rIxT K) ix_tup (pv 1) pe_int (fun _ _ => rfl)) (fun _ _ => rfl))) (pg_sub (pv 6) (pe_ix (r := rIxT K) ix_tup (pv 1) pe_int (fun _ _ => rfl)) set_list))
      (pss_one (ps_ret (pv 6)))))))), ?_⟩
  replace hsp := hsp.2
  obtain ⟨G, bk, kvs, bs, v, p, rfl, s0, hbk, hbs, hv, ok, hdp, hnm, q⟩ := hsp
  cases p with
  | one n o =>
    obtain ⟨a, b, rfl, h1, h2⟩ := dp_one hv
    have hx := ex_t s0 h1
    have ho := ex_t s0 h2
    obtain ⟨l, v1, g1, g3⟩ := bs_get hbs (hnm n (List.mem_singleton.mpr rfl))
    have hl := s0 _ _ g1
    refine ⟨_, rfl, a, _, 0, _, rfl, rfl, hx, atI_nat (j := 0) rfl, rfl, _, rfl, iteT (decide_eq_true rfl) ?_⟩
    refine ⟨_, rfl, _, rfl, a, _, 1, _, rfl, rfl, hx, atI_nat (j := 1) rfl, bk, _, rfl, (by rw [← v1]; exact DGet.k (k := Sum.inr n) hbk), ?_⟩
    refine ⟨_, rfl, a, _, 2, _, rfl, rfl, hx, atI_nat (j := 2) rfl, b, rfl, ⟨_, ho⟩, fun D hD => lcE (walk_tup (xs := natsV o)) (fun i => (o[i]?).map fun k => V.int (gN (sidesB bs n) k)) hD (sz_lt (by unfold natsV; rw [List.length_map, orders_len o ok]; decide)) (fun H1 e => ex_t e ho) (fun i y H1 H2 R S hi e hy k1 k2 => ?_) fun H1 e hD1 => ?_⟩
    · obtain ⟨rfl, hy⟩ := hy
      unfold natsV at hy
      rw [List.getElem?_map] at hy
      obtain ⟨k, hk1, rfl⟩ := Option.map_eq_some_iff.mp hy
      exact ⟨rfl, yes (iteT rfl ⟨_, rfl, _, rfl, l, _, _, _, rfl, rfl, sq_of (e _ _ hl), vi_get (by rw [g3]; exact orders_lt o ok k (List.mem_of_getElem? hk1)), k1 _ _ (Ex.refl _) (by rw [hk1] <;> rfl)⟩)⟩
    · unfold natsV at hD1
      rw [List.length_map, fm_map] at hD1
      refine q D _ hD e ?_
      rw [hD1]
      show some (HO.lst (o.map fun k => V.int (gN (sidesB bs n) k))) = some (.lst ((turnM (sidesB bs n) o).map V.int))
      unfold turnM
      rw [List.map_map] <;> rfl
  | «by» ax pa pb =>
    obtain ⟨a, va, vb, rfl, h1, da, db⟩ := dp_by hv
    obtain ⟨k1, k2, k3⟩ := ok
    have hx := ex_t s0 h1
    have hm : max (papDep pa) (papDep pb) + 1 ≤ dp + 1 := hdp
    obtain ⟨dq, rfl⟩ : ∃ dq, dp = dq + 1 := ⟨dp - 1, by have := pap_dep1 pa; omega⟩
    have l1 := span_len (sides := sidesB bs) k2
    have l2 := span_len (sides := sidesB bs) k3
    refine ⟨_, rfl, a, _, 0, _, rfl, rfl, hx, atI_nat (j := 0) rfl, rfl, _, rfl, iteF (by decide +kernel) ?_⟩
    refine ⟨_, rfl, _, rfl, a, _, 2, _, rfl, rfl, hx, atI_nat (j := 2) rfl, rfl, G, bk, kvs, bs, va, pa, rfl, s0, hbk, hbs, da, k2, by omega, fun n hn => hnm n (List.mem_append_left _ hn), fun r1 H1 n1 e1 hr1 => ?_⟩
    refine ⟨_, rfl, _, rfl, a, _, 3, _, rfl, rfl, ex_t e1 hx, atI_nat (j := 3) rfl, rfl, G, bk, kvs, bs, vb, pb, rfl, s0.trans e1, e1 _ _ hbk, hbs, db, k3, by omega, fun n hn => hnm n (List.mem_append_right _ hn), fun r2 H2 n2 e2 hr2 => ?_⟩
    have hr1' := e2 _ _ hr1
    have e12 := e1.trans e2
    generalize hff : spanM (sidesB bs) pa = fs at *
    generalize hss : spanM (sidesB bs) pb = ss at *
    refine ⟨_, rfl, by decide, by decide, fun D hD => lcE (walk_rg (n := 3)) (fun i => some (.int (max (gN fs i) (gN ss i)))) hD (sz_lt (by decide)) (fun _ _ => trivial) (fun i y H3 H4 R S hi e hy kk1 kk2 => ?_) fun H3 e hD1 => ?_⟩
    · obtain ⟨rfl, rfl⟩ := hy
      refine ⟨rfl, yes (iteT rfl ⟨_, rfl, _, rfl, r1, _, _, _, rfl, rfl, sq_of (e _ _ hr1'), vi_get (by omega), _, rfl, _, rfl, r2, _, _, _, rfl, rfl, sq_of (e _ _ hr2), vi_get (by omega), _, _, rfl, kk1 _ _ (Ex.refl _) ?_⟩)⟩
      exact congrArg (fun z => some (V.int z)) (max_if _ _).symm
    · replace hD1 : H3 D = some (.lst [.int (max (gN fs 0) (gN ss 0)), .int (max (gN fs 1) (gN ss 1)), .int (max (gN fs 2) (gN ss 2))]) := hD1
      have hx3 := ex_t (e12.trans e) hx
      have e3 := e12.trans e
      have nD : H D = none := back e12 hD
      refine ⟨_, rfl, _, rfl, a, _, 1, _, rfl, rfl, hx3, atI_nat (j := 1) rfl, r1, _, _, _, rfl, rfl, sq_of (e _ _ hr1'), vi_get (k := ax) (by omega), _, rfl, _, rfl, a, _, 1, _, rfl, rfl, hx3, atI_nat (j := 1) rfl, r2, _, _, _, rfl, rfl, sq_of (e _ _ hr2), vi_get (k := ax) (by omega), _, _, rfl, rfl, _, rfl, _, rfl, a, _, 1, _, rfl, rfl, hx3, atI_nat (j := 1) rfl, D, _, _, ax, rfl, rfl, hD1, ?_, _, rfl, q D _ nD (fun b u hb => ?_) ?_⟩
      · rcases (show ax = 0 ∨ ax = 1 ∨ ax = 2 by omega) with r | r | r <;> rw [r] <;> rfl
      · rw [upd_ne (ne_of_none hb nD)]
        exact e3 b u hb
      · rw [upd_same]
        show _ = some (HO.lst ((besideM (spanM (sidesB bs) pa) (spanM (sidesB bs) pb) ax).map V.int))
        rw [hff, hss]
        rcases (show ax = 0 ∨ ax = 1 ∨ ax = 2 by omega) with r | r | r <;> subst r <;> rfl
def sp_law_is_whole (K : PySem.W.Frag) : Sp := spN 3 fun vs H Q _ => ∃ i lo hi : Int, vs = [.int i, .int lo, .int hi] ∧ lo ≤ i ∧ i ≤ hi ∧ Q (.bl true) H
abbrev N_law_is_whole : List Str := ["_law_thing", "_law_low", "_law_high"]
theorem sc_law_is_whole : FnScope N_law_is_whole ["_law_thing", "_law_low", "_law_high"] (defScope s_law_is_whole) := ⟨rfl, rfl, rfl, by decide +kernel, rfl, by decide +kernel, by decide +kernel⟩
theorem w_law_is_whole {P : Program} {w : World} {K : PySem.W.Frag} {mg : Str → Option Value} {base : Heap} (T : Tp K mg)  : FnE P w K mg base 1 (He.ga K "_law_is_whole") ["_law_thing", "_law_low", "_law_high"] [] (sp_law_is_whole K) := by
  refine fne T.f_law_is_whole sc_law_is_whole (fun _ _ _ _ h => h.1) (fun _ _ _ _ _ _ us hl => match us, hl with | [_, _, _], _ => rfl) fun cdv A outer s H vs Q E hr hsp => ?_
  have nd := sc_law_is_whole.nd
  refine ⟨_, (pss_one (ps_ret (pe_and (pe_callB (r := rIsi K) call_isi (by rfl) T.z_isinstance (by decide +kernel) (pa_cons (pv 0) (pa_cons (pty (n := "int") T.z_int) pa_nil))) (pe_and (pe_not (pe_callB (r := rIsi K) call_isi (by rfl) T.z_isinstance (by decide +kernel) (pa_cons (pv 0) (pa_cons (pty (n := "bool") T.z_bool) pa_nil)))) (pe_one (pe_chain op_le op_le (pv 1) (pv 0) (pv 2))))))), ?_⟩
  replace hsp := hsp.2
  obtain ⟨i, lo, hi, rfl, h1, h2, q⟩ := hsp
  refine ⟨_, rfl, _, _, _, _, true, rfl, .ty _, .base (.int _), ki_ii, _, rfl, iteT rfl ?_⟩
  refine ⟨_, rfl, _, _, _, _, false, rfl, .ty _, .base (.int _), ki_ib, _, rfl, _, rfl, iteT rfl ?_⟩
  refine ⟨_, rfl, _, rfl, _, _, rfl, rfl, _, rfl, iteT (decide_eq_true h1) ⟨_, rfl, _, _, rfl, rfl, ?_⟩⟩
  show Q (.bl (decide (i ≤ hi))) H
  rw [decide_eq_true h2]
  exact q
theorem ty_t {K : PySem.W.Frag} {H : Hp} {a : Addr} {xs : List V} (h : SqT K H a xs) : TyX K H (.ref a) (.type "tuple") := by
  rcases h with (h | ⟨o, h⟩) | ⟨o, its, n, h1, h2, _⟩
  · exact .base (.tup h)
  · exact .fTuple h
  · exact .kTuple h1 h2
def sp_law_is_order (K : PySem.W.Frag) : Sp := spN 1 fun vs H Q _ => ∃ (a : Addr) (o : List Nat), vs = [.ref a] ∧ SqT K H a (natsV o) ∧ o ∈ ordersM ∧ ∀ H', Ex H H' → Q (.bl true) H'
abbrev N_law_is_order : List Str := ["_law_thing", "_law_number"]
theorem sc_law_is_order : FnScope N_law_is_order ["_law_thing"] (defScope s_law_is_order) := ⟨rfl, rfl, rfl, by decide +kernel, rfl, by decide +kernel, by decide +kernel⟩
theorem w_law_is_order {P : Program} {w : World} {K : PySem.W.Frag} {mg : Str → Option Value} {base : Heap} (T : Tp K mg) (F_law_is_whole : FnE P w K mg base 1 (He.ga K "_law_is_whole") ["_law_thing", "_law_low", "_law_high"] [] (sp_law_is_whole K)) : FnE P w K mg base 2 (He.ga K "_law_is_order") ["_law_thing"] [] (sp_law_is_order K) := by
  refine fne T.f_law_is_order sc_law_is_order (fun _ _ _ _ h => h.1) (fun _ _ _ _ _ _ us hl => match us, hl with | [_], _ => rfl) fun cdv A outer s H vs Q E hr hsp => ?_
  have nd := sc_law_is_order.nd
  refine ⟨_, (pss_cons (ps_if (PW.pt (pw_or (pt_not (pt_val (pe_callB (r := rIsi K) call_isi (by rfl) T.z_isinstance (by decide +kernel) (pa_cons (pv 0) (pa_cons (pty (n := "tuple") T.z_tuple) pa_nil))))) (pw_or1 (pt_cmpR op_ne (pe_callB (r := rLenQ K) cLenQ (by rfl) T.z_len (by decide +kernel) (pa_cons (pv 0) pa_nil)) pe_int (nomark _))))) (pss_one (ps_ret pe_bl)) pss_nil)
      (pss_cons (ps_if (pt_cmpR (r := rNeD K) (op_neD hr.units) (pe_lc (own := [("_law_number", 1)]) (g := gName 1) rfl nd (pi_tup (pv 0) : PI _ _ _ (iTup K _)) (blkOk_by (N := N_law_is_order) (sc := defScope s_law_is_order) (by decide +kernel)) (fun _ _ _ _ _ => (pgn 1 nd)) (fun _ _ _ _ _ => (pts_one (pt_not (pt_val (pcall F_law_is_whole (hr.mono (by decide)) T.g_law_is_whole (pa_cons (pv 1) (pa_cons pe_int (pa_cons pe_int pa_nil)))))))) (fun _ _ _ _ _ => (pv 1))) (pe_lst pa_nil) (nomark _)) (pss_one (ps_ret pe_bl)) pss_nil)
      (pss_one (ps_ret (pe_cmpR (r := rEqD K) (op_eqD hr.units) (pe_callB (r := rSrtI K) (cSrtI (hu64 hr)) (by rfl) T.z_sorted (by decide +kernel) (pa_cons (pv 0) pa_nil)) (pe_lst (pa_cons pe_int (pa_cons pe_int (pa_cons pe_int pa_nil)))) (nomark _)))))), ?_⟩
  replace hsp := hsp.2
  obtain ⟨a, o, rfl, ha, ho, q⟩ := hsp
  have l3 := orders_len o ho
  have lV : (natsV o).length = 3 := by
    unfold natsV
    rw [List.length_map, l3]
  refine ⟨_, rfl, _, _, _, _, true, rfl, .ty _, ty_t ha, ki_tt, _, rfl, iteF (by decide) ⟨_, rfl, a, _, rfl, .inr ha, rfl, _, rfl, iteF (by rw [lV]; decide) ?_⟩⟩
  refine ⟨_, rfl, a, rfl, ⟨_, ha⟩, fun D hD => lcE (walk_tup (xs := natsV o)) (fun _ => none) hD (sz_lt (by rw [lV]; decide)) (fun H1 e => ex_t e ha) (fun i y H1 H2 R S hi e hy k1 k2 => ?_) fun H1 e hD1 => ?_⟩
  · obtain ⟨rfl, hy⟩ := hy
    unfold natsV at hy
    rw [List.getElem?_map] at hy
    obtain ⟨k, hk1, rfl⟩ := Option.map_eq_some_iff.mp hy
    have klt := orders_lt o ho k (List.mem_of_getElem? hk1)
    exact ⟨rfl, _, rfl, rfl, _, 0, 2, rfl, by omega, by omega, _, rfl, iteF (by decide) (k2 _ (Ex.refl _) rfl)⟩
  · have hD2 : H1 D = some (.lst []) := by
      rw [hD1, lV] <;> rfl
    refine ⟨szl (by simp), fun l2 n2 => ⟨.list [], .list [], .lst (sq_of (upk hD2 n2)) .nil, .lst (sq_of upd_same) .nil, rfl, rfl, _, rfl, iteF (by decide +kernel) ?_⟩⟩
    have e2 : Ex H _ := e.trans (Ex.new (o := .lst []) n2)
    refine ⟨_, rfl, a, o.map (fun k : Nat => (k : Int)), rfl, .inr (by rw [nats_int]; exact ex_t e2 ha), fun p np => ⟨szl (by simp), fun l3' n3 => ?_⟩⟩
    rw [sorted_ord o ho] at n3 ⊢
    have e3 := (Ex.new (o := .lst ([0, 1, 2].map V.int)) np).trans (Ex.new (o := .lst [.int 0, .int 1, .int 2]) n3)
    refine ⟨.list ([0, 1, 2].map PyData.int), .list ([0, 1, 2].map PyData.int), .lst (sq_of (upk upd_same n3)) (dp_ints [0, 1, 2]), .lst (sq_of upd_same) (dp_ints [0, 1, 2]), rfl, rfl, ?_⟩
    exact q _ (e2.trans e3)
end BX
/-! the walks: the law's names, choices -/
namespace BX
open PySem PySem.Spec PyProof.Rows L2
def sr_law_named (K : PySem.W.Frag) : Nat → Sp
  | 0 => fun _ _ _ _ => False
  | dp + 1 => spN 2 fun vs H Q _ => ∃ (G : Hp) (bk : Addr) (kvs : List (L2.Key × V)) (bs : Bk) (v : V) (p : Pap), vs = [.ref bk, v] ∧ Ex G H ∧ H bk = some (.dK kvs) ∧ BsAt G kvs bs ∧ Dp K G v (papD p) ∧ papOk p ∧ papDep p ≤ dp + 1 ∧ (papN p).length ≤ 1000 ∧ (∀ n ∈ papN p, n ∈ bs.map (·.1)) ∧
    ∀ l H', H l = none → Ex H H' → H' l = some (.lst ((papN p).map V.str)) → Q (.ref l) H'
abbrev sp_law_named (K : PySem.W.Frag) : Sp := sr_law_named K 5
abbrev N_law_named : List Str := ["_law_book_here", "_law_thing", "_law_good", "_law_first", "_law_second"]
theorem sc_law_named : FnScope N_law_named ["_law_book_here", "_law_thing"] (defScope s_law_named) := ⟨rfl, rfl, rfl, by decide +kernel, rfl, by decide +kernel, by decide +kernel⟩
theorem w_law_named {P : Program} {w : World} {K : PySem.W.Frag} {mg : Str → Option Value} {base : Heap} (T : Tp K mg) (F_law_is_order : FnE P w K mg base 2 (He.ga K "_law_is_order") ["_law_thing"] [] (sp_law_is_order K)) (F_law_is_whole : FnE P w K mg base 1 (He.ga K "_law_is_whole") ["_law_thing", "_law_low", "_law_high"] [] (sp_law_is_whole K)) : ∀ dp, FnE P w K mg base (dp + 2) (He.ga K "_law_named") ["_law_book_here", "_law_thing"] [] (sr_law_named K dp)
| 0 => fneF T.f_law_named (fun vs H Q E h => h.elim) (fun _ _ _ _ _ _ us hl => match us, hl with | [_, _], _ => rfl)
| dp + 1 => by
  have F_law_named := w_law_named (P := P) (w := w) (base := base) T F_law_is_order F_law_is_whole dp
  refine fne T.f_law_named sc_law_named (fun _ _ _ _ h => h.1) (fun _ _ _ _ _ _ us hl => match us, hl with | [_, _], _ => rfl) fun cdv A outer s H vs Q E hr hsp => ?_
  have nd := sc_law_named.nd
  refine ⟨_, (pss_cons (ps_if (PW.pt (pw_or (pt_not (pt_val (pe_callB (r := rIsi K) call_isi (by rfl) T.z_isinstance (by decide +kernel) (pa_cons (pv 1) (pa_cons (pty (n := "tuple") T.z_tuple) pa_nil))))) (pw_or (pt_cmpR op_lt (pe_callB (r := rLenQ K) cLenQ (by rfl) T.z_len (by decide +kernel) (pa_cons (pv 1) pa_nil)) pe_int (nomark _)) (pw_or1 (pt_not (pt_val (pe_callB (r := rIsi K) call_isi (by rfl) T.z_isinstance (by decide +kernel) (pa_cons (pe_ix (r := rIxT K) ix_tup (pv 1) pe_int (fun _ _ => rfl)) (pa_cons (pty (n := "str") T.z_str) pa_nil))))))))) (pss_one (ps_ret pe_non)) pss_nil)
      (pss_cons (ps_if (PW.pt (pw_and (pt_cmpR op_eq (pe_ix (r := rIxT K) ix_tup (pv 1) pe_int (fun _ _ => rfl)) pe_str (nomark _)) (pw_and1 (pt_cmpR op_eq (pe_callB (r := rLenQ K) cLenQ (by rfl) T.z_len (by decide +kernel) (pa_cons (pv 1) pa_nil)) pe_int (nomark _))))) (pss_cons (pset 2 nd (pe_and (pe_callB (r := rIsi K) call_isi (by rfl) T.z_isinstance (by decide +kernel) (pa_cons (pe_ix (r := rIxT K) ix_tup (pv 1) pe_int (fun _ _ => rfl)) (pa_cons (pty (n := "str") T.z_str) pa_nil))) (pe_and (pe_cmp (pc_din (hu_of hr) (pe_ix (r := rIxT K) ix_tup (pv 1) pe_int (fun _ _ => rfl)) (pv 0))) (pe_one (pcall F_law_is_order (hr.mono (by omega)) T.g_law_is_order (pa_cons (pe_ix (r := rIxT K) ix_tup (pv 1) pe_int (fun _ _ => rfl)) pa_nil))))))
      (pss_one (ps_ret (pe_ifExp (pt_val (pv 2)) (pe_lst (pa_cons (pe_ix (r := rIxT K) ix_tup (pv 1) pe_int (fun _ _ => rfl)) pa_nil)) pe_non)))) pss_nil)
      (pss_cons (ps_if (PW.pt (pw_or (pt_cmpR op_ne (pe_ix (r := rIxT K) ix_tup (pv 1) pe_int (fun _ _ => rfl)) pe_str (nomark _)) (pw_or (pt_cmpR op_ne (pe_callB (r := rLenQ K) cLenQ (by rfl) T.z_len (by decide +kernel) (pa_cons (pv 1) pa_nil)) pe_int (nomark _)) (pw_or1 (pt_not (pt_val (pcall F_law_is_whole (hr.mono (by omega)) T.g_law_is_whole (pa_cons (pe_ix (r := rIxT K) ix_tup (pv 1) pe_int (fun _ _ => rfl)) (pa_cons pe_int (pa_cons pe_int pa_nil)))))))))) (pss_one (ps_ret pe_non)) pss_nil)
      (pss_cons (pset 3 nd (pcall F_law_named (hr.mono (by omega)) T.g_law_named (pa_cons (pv 0) (pa_cons (pe_ix (r := rIxT K) ix_tup (pv 1) pe_int (fun _ _ => rfl)) pa_nil))))
      (pss_cons (pset 4 nd (pcall F_law_named (hr.mono (by omega)) T.g_law_named (pa_cons (pv 0) (pa_cons (pe_ix (r := rIxT K) ix_tup (pv 1) pe_int (fun _ _ => rfl)) pa_nil))))
      (pss_cons (ps_if (PW.pt (pw_or (pt_cmpR op_isN (pv 3) pe_non (nomark _)) (pw_or1 (pt_cmpR op_isN (pv 4) pe_non (nomark _))))) (pss_one (ps_ret pe_non)) pss_nil)
      (pss_one (ps_ret (pe_op op_cat (pv 3) (pv 4)))))))))), ?_⟩
  replace hsp := hsp.2
  obtain ⟨G, bk, kvs, bs, v, p, rfl, s0, hbk, hbs, hv, ok, hdp, hlen, hnm, q⟩ := hsp
  cases p with
  | one n o =>
    obtain ⟨a, b, rfl, h1, h2⟩ := dp_one hv
    have hx := ex_t s0 h1
    have ho := ex_t s0 h2
    obtain ⟨l, v1, _⟩ := bs_get hbs (hnm n (List.mem_singleton.mpr rfl))
    refine ⟨_, rfl, _, _, _, _, true, rfl, .ty _, ty_t hx, ki_tt, _, rfl, iteF (by decide) ⟨_, rfl, a, _, rfl, .inr hx, _, _, rfl, rfl, _, rfl, iteF (by simp) ?_⟩⟩
    refine ⟨_, rfl, a, _, 0, _, rfl, rfl, hx, atI_nat (j := 0) rfl, _, _, _, _, true, rfl, .ty _, .base (.str _), ki_ss, _, rfl, iteF (by decide) ?_⟩
    refine ⟨_, rfl, a, _, 0, _, rfl, rfl, hx, atI_nat (j := 0) rfl, rfl, _, rfl, iteT (decide_eq_true rfl) ⟨_, rfl, a, _, rfl, .inr hx, rfl, _, rfl, iteT (by simp) ?_⟩⟩
    refine ⟨_, rfl, a, _, 1, _, rfl, rfl, hx, atI_nat (j := 1) rfl, _, _, _, _, true, rfl, .ty _, .base (.str _), ki_ss, _, rfl, iteT rfl ?_⟩
    refine ⟨_, rfl, a, _, 1, _, rfl, rfl, hx, atI_nat (j := 1) rfl, _, rfl, bk, _, rfl, DGet.k (k := Sum.inr n) hbk, _, rfl, iteT (by rw [v1] <;> rfl) ?_⟩
    refine ⟨_, rfl, a, _, 2, _, rfl, rfl, hx, atI_nat (j := 2) rfl, rfl, b, o, rfl, ho, ok, fun H1 e1 => ⟨_, rfl, _, rfl, iteT rfl ?_⟩⟩
    exact ⟨_, rfl, a, _, 1, _, rfl, rfl, ex_t e1 hx, atI_nat (j := 1) rfl, szl (by simp), fun l2 n2 => q l2 _ (back e1 n2) (e1.trans (Ex.new n2)) upd_same⟩
  | «by» ax pa pb =>
    obtain ⟨a, va, vb, rfl, h1, da, db⟩ := dp_by hv
    obtain ⟨k1, k2, k3⟩ := ok
    have hx := ex_t s0 h1
    have hm : max (papDep pa) (papDep pb) + 1 ≤ dp + 1 := hdp
    obtain ⟨dq, rfl⟩ : ∃ dq, dp = dq + 1 := ⟨dp - 1, by have := pap_dep1 pa; omega⟩
    have hl : (papN pa).length + (papN pb).length ≤ 1000 := by
      have z : (papN pa ++ papN pb).length ≤ 1000 := hlen
      rw [List.length_append] at z
      exact z
    refine ⟨_, rfl, _, _, _, _, true, rfl, .ty _, ty_t hx, ki_tt, _, rfl, iteF (by decide) ⟨_, rfl, a, _, rfl, .inr hx, _, _, rfl, rfl, _, rfl, iteF (by simp) ?_⟩⟩
    refine ⟨_, rfl, a, _, 0, _, rfl, rfl, hx, atI_nat (j := 0) rfl, _, _, _, _, true, rfl, .ty _, .base (.str _), ki_ss, _, rfl, iteF (by decide) ?_⟩
    refine ⟨_, rfl, a, _, 0, _, rfl, rfl, hx, atI_nat (j := 0) rfl, rfl, _, rfl, iteF (by decide +kernel) ?_⟩
    refine iteF (by decide) ⟨_, rfl, a, _, 0, _, rfl, rfl, hx, atI_nat (j := 0) rfl, rfl, _, rfl, iteF (by decide +kernel) ⟨_, rfl, a, _, rfl, .inr hx, rfl, _, rfl, iteF (by simp) ?_⟩⟩
    refine ⟨_, rfl, a, _, 1, _, rfl, rfl, hx, atI_nat (j := 1) rfl, rfl, _, 0, 2, rfl, by omega, by omega, _, rfl, iteF (by decide) ?_⟩
    refine ⟨_, rfl, _, rfl, a, _, 2, _, rfl, rfl, hx, atI_nat (j := 2) rfl, rfl, G, bk, kvs, bs, va, pa, rfl, s0, hbk, hbs, da, k2, by omega, by omega, fun n hn => hnm n (List.mem_append_left _ hn), fun r1 H1 n1 e1 hr1 => ?_⟩
    refine ⟨_, rfl, _, rfl, a, _, 3, _, rfl, rfl, ex_t e1 hx, atI_nat (j := 3) rfl, rfl, G, bk, kvs, bs, vb, pb, rfl, s0.trans e1, e1 _ _ hbk, hbs, db, k3, by omega, by omega, fun n hn => hnm n (List.mem_append_right _ hn), fun r2 H2 n2 e2 hr2 => ?_⟩
    refine ⟨_, rfl, rfl, _, rfl, iteF (by simp) ⟨_, rfl, rfl, _, rfl, iteF (by simp) ?_⟩⟩
    refine ⟨_, rfl, _, rfl, r1, r2, _, _, rfl, rfl, e2 _ _ hr1, hr2, by rw [List.length_map, List.length_map]; exact sz_of (by omega), fun l2 n3 => q l2 _ (back (e1.trans e2) n3) ((e1.trans e2).trans (Ex.new n3)) ?_⟩
    rw [upd_same, ← List.map_append] <;> rfl
def sr_law_choices (K : PySem.W.Frag) : Nat → Sp
  | 0 => fun _ _ _ _ => False
  | dp + 1 => spN 2 fun vs H Q _ => ∃ (G : Hp) (t : Addr) (ns : List Str) (k : Nat), vs = [.ref t, .int (k : Nat)] ∧ Ex G H ∧ TupS G t ns ∧ ns.length ≤ 4 ∧ k ≤ dp ∧
    ∀ l rs G' H', Gr none G H G' H' → G' l = some (.lst (rs.map V.ref)) → TsAt G' rs (chosenM ns k) → Q (.ref l) H'
abbrev sp_law_choices (K : PySem.W.Frag) : Sp := sr_law_choices K 5
abbrev N_law_choices : List Str := ["_law_names_here", "_law_many", "_law_found", "_law_k", "_law_more"]
theorem sc_law_choices : FnScope N_law_choices ["_law_names_here", "_law_many"] (defScope s_law_choices) := ⟨rfl, rfl, rfl, by decide +kernel, rfl, by decide +kernel, by decide +kernel⟩
theorem w_law_choices {P : Program} {w : World} {K : PySem.W.Frag} {mg : Str → Option Value} {base : Heap} (T : Tp K mg)  : ∀ dp, FnE P w K mg base (dp + 0) (He.ga K "_law_choices") ["_law_names_here", "_law_many"] [] (sr_law_choices K dp)
| 0 => fneF T.f_law_choices (fun vs H Q E h => h.elim) (fun _ _ _ _ _ _ us hl => match us, hl with | [_, _], _ => rfl)
| dp + 1 => by
  have F_law_choices := w_law_choices (P := P) (w := w) (base := base) T  dp
  refine fne T.f_law_choices sc_law_choices (fun _ _ _ _ h => h.1) (fun _ _ _ _ _ _ us hl => match us, hl with | [_, _], _ => rfl) fun cdv A outer s H vs Q E hr hsp => ?_
  have nd := sc_law_choices.nd
  refine ⟨_, (pss_cons (ps_if (pt_cmpR op_eq (pv 1) pe_int (nomark _)) (pss_one (ps_ret (pe_lst (pa_cons (pe_tup pa_nil) pa_nil)))) pss_nil)
      (pss_cons (pset 2 nd (pe_lst pa_nil))
      (pss_cons (ps_for PassesOwn.never rfl (pi_range1 (by rfl) T.z_range (pa_cons (pe_callB (r := rLenQ K) cLenQ (by rfl) T.z_len (by decide +kernel) (pa_cons (pv 0) pa_nil)) pa_nil)) (pgn 3 nd) (pss_one (pset 2 nd (pe_op op_cat (pv 2) (pe_lc (own := [("_law_more", 4)]) (g := gName 4) rfl nd (pi_list (pcall F_law_choices (hr.mono (by omega)) T.g_law_choices (pa_cons (pe_slice (r := rSlA K) sl_tupA (pv 0) (po_some (pe_op op_add (pv 3) pe_int)) po_none) (pa_cons (pe_op op_sub (pv 1) pe_int) pa_nil))) : PI _ _ _ (iList K _)) (blkOk_by (N := N_law_choices) (sc := defScope s_law_choices) (by decide +kernel)) (fun _ _ _ _ _ => (pgn 4 nd)) (fun _ _ _ _ _ => pts_nil) (fun _ _ _ _ _ => (pe_op (r := rCatA K) op_catA (pe_tup (pa_cons (pe_ix (r := rIxT K) ix_tup (pv 0) (pv 3) (fun _ _ => rfl)) pa_nil)) (pv 4))))))))
      (pss_one (ps_ret (pv 2)))))), ?_⟩
  replace hsp := hsp.2
  obtain ⟨G, t, ns, k, rfl, s0, ht, hn, hk, q⟩ := hsp
  cases k with
  | zero =>
    refine ⟨_, rfl, rfl, _, rfl, iteT (decide_eq_true rfl) ⟨szl (by simp), fun t0 nt0 => ⟨szl (by simp), fun l nl => ?_⟩⟩⟩
    have g1 := (Gr.start (m := none) s0).new (o := .tup []) nt0
    have e : chosenM ns 0 = [[]] := by
      unfold chosenM
      rfl
    refine q l [t0] _ _ (g1.new nl) upd_same ?_
    rw [e]
    exact .cons (upk upd_same (back g1.s nl)) .nil
  | succ k =>
    refine ⟨_, rfl, rfl, _, rfl, iteF (by simp; omega) ⟨szl (by simp), fun l0 nl0 => ⟨_, rfl, t, _, rfl, .inr (st_of (upk (s0 _ _ ht) nl0)), _, rfl, by rw [List.length_map]; omega, by rw [List.length_map]; omega, ?_⟩⟩⟩
    rw [List.length_map, Int.toNat_natCast]
    refine forE (walk_rg (n := ns.length)) (fun i σ H' => ∃ G' l3 o3 o4 rs, σ = [some (.ref t), some (.int ((k + 1 : Nat) : Int)), some (.ref l3), o3, o4] ∧ Gr none G H G' H' ∧ G' l3 = some (.lst (rs.map V.ref)) ∧ TsAt G' rs (chosenU ns k i))
      ⟨upd G l0 (.lst []), l0, none, none, [], rfl, (Gr.start s0).new nl0, upd_same, .nil⟩ (fun _ _ _ _ _ => trivial) (fun i z σ H2 H3 N hi pv hy k1 => ?_) fun σ H' pv => ?_
    · obtain ⟨G1, l3, o3, o4, rs, rfl, g1, hl1, hw1⟩ := pv
      obtain ⟨rfl, rfl⟩ := hy
      have ht1 := g1.g _ _ ht
      have htH : H3 t = some (.tup (ns.map V.str)) := g1.s _ _ ht1
      obtain ⟨dq, rfl⟩ : ∃ dq, dp = dq + 1 := ⟨dp - 1, by omega⟩
      obtain ⟨n, hn1⟩ : ∃ n, ns[i]? = some n := ⟨ns[i], List.getElem?_eq_getElem hi⟩
      have hn2 : atI (ns.map V.str) ((i : Nat) : Int) = some (.str n) := atI_nat (by rw [List.getElem?_map, hn1] <;> rfl)
      refine ⟨_, rfl, _, rfl, ⟨_, rfl, _, _, rfl, rfl, _, rfl, ?_⟩⟩
      have ci : (((i : Nat) : Int) + 1) = ((i + 1 : Nat) : Int) := by omega
      have ck : (((k + 1 : Nat) : Int) - 1) = ((k : Nat) : Int) := by omega
      rw [ci]
      refine ⟨t, _, rfl, st_of htH, fun z => ?_, fun _ p np => ?_⟩
      · exfalso
        have z1 := z.1
        rw [HT.sIx_nat, List.length_map] at z1
        omega
      rw [cut_from]
      have g3 := g1.new (o := .tup ((ns.drop (i + 1)).map V.str)) np
      refine ⟨_, rfl, _, _, rfl, rfl, rfl, upd G1 p (.tup ((ns.drop (i + 1)).map V.str)), p, ns.drop (i + 1), k, by rw [← ck] <;> rfl, g3.s, upd_same, by rw [List.length_drop]; omega, by omega, fun lc rsc G4 H4 g4 hlc hrc => ?_⟩
      have g5 := g3.step g4
      have eG4 : Ex G1 G4 := (Ex.new (back g1.s np)).trans g4.g
      have ht4 : H4 t = some (.tup (ns.map V.str)) := g5.s _ _ (eG4 _ _ ht1)
      refine ⟨lc, rfl, ⟨_, sq_of (g4.s _ _ hlc)⟩, fun D nD => lcP (m := none) (walk_list (xs := rsc.map V.ref)) (Gr.start g4.s) nD (fun _ z => by cases z) (sz_lt (by rw [List.length_map, hrc.length]; have := chosenM_len4 (ns := ns.drop (i + 1)) (by rw [List.length_drop]; omega) k; omega))
        (fun j G5 H5 acc => ∃ r5, acc = r5.map V.ref ∧ TsAt G5 r5 (((chosenM (ns.drop (i + 1)) k).take j).map (n :: ·))) (fun j G5 H5 acc _ g _ _ => sq_of (g.s _ _ (g.g _ _ hlc))) ⟨[], rfl, .nil⟩ (fun j v G5 H5 acc H6 N1 S1 hj g6 e6 gD hD hR hy6 k2 k3 => ?_) fun G5 H5 acc g6 e6 gD hD hR => ?_⟩
      · obtain ⟨r5, rfl, hr5⟩ := hR
        obtain ⟨rfl, hy6⟩ := hy6
        rw [List.getElem?_map] at hy6
        obtain ⟨rj, hrj, rfl⟩ := Option.map_eq_some_iff.mp hy6
        obtain ⟨cj, hcj, tj⟩ := pr_at (hrc.ex g6.g) hrj
        have tk : ((chosenM (ns.drop (i + 1)) k).take (j + 1)).map (n :: ·) = ((chosenM (ns.drop (i + 1)) k).take j).map (n :: ·) ++ [n :: cj] := by
          rw [take_snoc hcj, List.map_append] <;> rfl
        have lj : cj.length ≤ 4 := by
          have h1 := (chosenM_mem (List.mem_of_getElem? hcj)).2.length_le
          rw [List.length_drop] at h1
          omega
        have ht6 := g6.e _ _ ht4
        refine ⟨rfl, yes (iteT rfl ⟨_, rfl, _, rfl, t, _, _, _, rfl, rfl, st_of ht6, hn2, szl (by simp), fun a na => ⟨_, rfl, a, rj, _, _, rfl, rfl, st_of upd_same, st_of (upk (g6.s _ _ tj) na), ?_, fun z => (by cases z), fun _ z => ?_, fun _ _ p2 np2 => ?_⟩⟩)⟩
        · exact sz_of (by rw [List.length_map]; simp only [List.length_cons, List.length_nil]; omega)
        · have ga := g6.new (o := .tup [.str n]) na
          refine k2 _ _ _ ga (e6.trans (Ex.new (back g6.s na))) (upn gD hD na) (upk hD na) ⟨r5 ++ [a], by rw [List.map_append] <;> rfl, ?_⟩
          rw [tk]
          refine pr_app (hr5.ex (Ex.new (back g6.s na))) (.cons ?_ .nil)
          have e0 : cj = [] := by
            cases cj with
            | nil => rfl
            | cons _ _ => cases z
          rw [e0]
          exact upd_same
        · have ga := g6.new (o := .tup [.str n]) na
          have gb := ga.new (o := .tup ([.str n] ++ cj.map V.str)) np2
          refine k2 _ _ _ gb ((e6.trans (Ex.new (back g6.s na))).trans (Ex.new (back ga.s np2))) (upn (upn gD hD na) (upk hD na) np2) (upk (upk hD na) np2) ⟨r5 ++ [p2], by rw [List.map_append] <;> rfl, ?_⟩
          rw [tk]
          exact pr_app (hr5.ex ((Ex.new (back g6.s na)).trans (Ex.new (back ga.s np2)))) (.cons upd_same .nil)
      · obtain ⟨r5, rfl, hr5⟩ := hR
        rw [List.length_map, hrc.length, List.take_length] at hr5
        have g7 := g5.step g6
        have hl7 := g7.s _ _ ((eG4.trans g6.g) _ _ hl1)
        have lt := chosenU_le ns k (i + 1) hi
        have l4 := chosenM_len4 hn (k + 1)
        rw [chosenU_succ, List.length_append, get_D hn1] at lt
        have w1 : rs.length = (chosenU ns k i).length := hw1.length
        have w2 : r5.length = ((chosenM (ns.drop (i + 1)) k).map (n :: ·)).length := hr5.length
        refine ⟨l3, D, _, _, rfl, rfl, hl7, hD, by rw [List.length_map, List.length_map]; exact sz_of (by omega), fun l9 n9 => k1 _ _ ⟨_, l9, _, _, rs ++ r5, rfl, g7.new n9, by rw [upd_same, List.map_append], ?_⟩⟩
        rw [chosenU_succ, get_D hn1]
        exact TsAt.ex (pr_app (hw1.ex (eG4.trans g6.g)) hr5) (Ex.new (back g7.s n9))
    · obtain ⟨G1, l3, o3, o4, rs, rfl, g1, hl1, hw1⟩ := pv
      rw [chosenU_all] at hw1
      exact ⟨_, rfl, q l3 rs _ _ g1 hl1 hw1⟩
end BX
/-! the walks: all choices again, what is held -/
namespace BX
open PySem PySem.Spec PyProof.Rows L2
def sp_law_all_choices (K : PySem.W.Frag) : Sp := spN 1 fun vs H Q _ => ∃ (G : Hp) (t : Addr) (ns : List Str), vs = [.ref t] ∧ Ex G H ∧ G t = some (.lst (ns.map V.str)) ∧ ns.length ≤ 4 ∧
  ∀ l rs G' H', Gr none G H G' H' → G' l = some (.lst (rs.map V.ref)) → TsAt G' rs (choicesM ns) → Q (.ref l) H'
abbrev N_law_all_choices : List Str := ["_law_names_here", "_law_found", "_law_many"]
theorem sc_law_all_choices : FnScope N_law_all_choices ["_law_names_here"] (defScope s_law_all_choices) := ⟨rfl, rfl, rfl, by decide +kernel, rfl, by decide +kernel, by decide +kernel⟩
theorem w_law_all_choices {P : Program} {w : World} {K : PySem.W.Frag} {mg : Str → Option Value} {base : Heap} (T : Tp K mg) (F_law_choices : FnE P w K mg base 5 (He.ga K "_law_choices") ["_law_names_here", "_law_many"] [] (sp_law_choices K)) : FnE P w K mg base 6 (He.ga K "_law_all_choices") ["_law_names_here"] [] (sp_law_all_choices K) := by
  refine fne T.f_law_all_choices sc_law_all_choices (fun _ _ _ _ h => h.1) (fun _ _ _ _ _ _ us hl => match us, hl with | [_], _ => rfl) fun cdv A outer s H vs Q E hr hsp => ?_
  have nd := sc_law_all_choices.nd
  refine ⟨_, (pss_cons (pset 1 nd (pe_lst pa_nil))
      (pss_cons (ps_for PassesOwn.never rfl (pi_range2 (by rfl) T.z_range (pa_cons pe_int (pa_cons (pe_op op_add (pe_callB (r := rLenQ K) cLenQ (by rfl) T.z_len (by decide +kernel) (pa_cons (pv 0) pa_nil)) pe_int) pa_nil))) (pgn 2 nd) (pss_one (pset 1 nd (pe_op op_cat (pv 1) (pcall F_law_choices (hr.mono (by decide)) T.g_law_choices (pa_cons (pe_callTy (r := rTupQ K) cTupQ (by rfl) T.z_tuple (by decide +kernel) (pa_cons (pv 0) pa_nil)) (pa_cons (pv 2) pa_nil)))))))
      (pss_one (ps_ret (pv 1))))), ?_⟩
  replace hsp := hsp.2
  obtain ⟨G, t, ns, rfl, s0, ht, hn, q⟩ := hsp
  refine ⟨szl (by simp), fun l0 nl0 => ?_⟩
  have ht0 := upk (x := .lst []) (s0 _ _ ht) nl0
  refine ⟨_, rfl, t, _, rfl, .inl (sq_of ht0), _, _, rfl, rfl, 1, ((ns.length : Nat) : Int) + 1, by rw [List.length_map] <;> rfl, ⟨by decide, by decide, by omega, by omega⟩, ?_⟩
  have en : (((ns.length : Nat) : Int) + 1 - 1).toNat = ns.length := by omega
  rw [en]
  refine forE (walk_range (lo := 1) (n := ns.length)) (fun i σ H' => ∃ G' l3 o2 rs, σ = [some (.ref t), some (.ref l3), o2] ∧ Gr none G H G' H' ∧ G' l3 = some (.lst (rs.map V.ref)) ∧ TsAt G' rs ((List.range i).flatMap fun m => chosenM ns (m + 1)))
    ⟨upd G l0 (.lst []), l0, none, [], rfl, (Gr.start s0).new nl0, upd_same, .nil⟩ (fun _ _ _ _ _ => trivial) (fun i z σ H2 H3 N hi pv hy k1 => ?_) fun σ H' pv => ?_
  · obtain ⟨G1, l3, o2, rs, rfl, g1, hl1, hw1⟩ := pv
    obtain ⟨rfl, rfl⟩ := hy
    have ci : (1 + ((i : Nat) : Int)) = ((i + 1 : Nat) : Int) := by omega
    refine ⟨_, rfl, _, rfl, t, _, rfl, .inl ⟨sq_of (g1.s _ _ (g1.g _ _ ht)), fun p np => ?_⟩⟩
    have g2 := g1.new (o := .tup (ns.map V.str)) np
    refine ⟨_, rfl, rfl, _, p, ns, i + 1, congrArg (fun z => [V.ref p, V.int z]) ci, g2.s, upd_same, hn, (show i + 1 ≤ 4 by omega), fun l rs2 G3 H5 g3 hl3 hr3 => ?_⟩
    have g4 := g2.step g3
    have e3 := (Ex.new (o := .tup (ns.map V.str)) (back g1.s np)).trans g3.g
    have w1 : rs.length = _ := hw1.length
    have w2 : rs2.length = _ := hr3.length
    have b1 := flat_len (fun m => chosenM ns (m + 1)) 16 (fun m => chosenM_len4 hn (m + 1)) i
    have b2 := chosenM_len4 hn (i + 1)
    refine ⟨l3, l, _, _, rfl, rfl, g4.s _ _ (e3 _ _ hl1), g3.s _ _ hl3, by rw [List.length_map, List.length_map]; exact sz_of (by omega), fun l9 n9 => k1 _ _ ⟨_, l9, _, rs ++ rs2, rfl, g4.new n9, by rw [upd_same, List.map_append], ?_⟩⟩
    rw [choicesU_succ]
    exact TsAt.ex (pr_app (hw1.ex e3) hr3) (Ex.new (back g4.s n9))
  · obtain ⟨G1, l3, o2, rs, rfl, g1, hl1, hw1⟩ := pv
    exact ⟨_, rfl, q l3 rs _ _ g1 hl1 hw1⟩
/-- lists of numbers -/
def IsAt (G : Hp) (rs : List Addr) (ls : List (List Int)) : Prop := Paired (fun a l => G a = some (.lst (l.map V.int)) ∧ l.length = 3) rs ls
theorem IsAt.ex {G G' : Hp} {rs : List Addr} {ls : List (List Int)} (h : IsAt G rs ls) (e : Ex G G') : IsAt G' rs ls := Paired.mapP h fun _ _ z => ⟨e _ _ z.1, z.2⟩
def lheldM (f : List Int) (ss : List (List Int)) : Bool := ss.any fun o => leM o f
theorem leM_iff {f g : List Int} : leM f g = true ↔ gN f 0 ≤ gN g 0 ∧ gN f 1 ≤ gN g 1 ∧ gN f 2 ≤ gN g 2 := by
  unfold leM
  simp
def sp_law_held (K : PySem.W.Frag) : Sp := spN 2 fun vs H Q _ => ∃ (fa st : Addr) (f : List Int) (rs : List Addr) (ss : List (List Int)), vs = [.ref fa, .ref st] ∧ H fa = some (.lst (f.map V.int)) ∧ f.length = 3 ∧ H st = some (.lst (rs.map V.ref)) ∧ IsAt H rs ss ∧ Q (.bl (lheldM f ss)) H
abbrev N_law_held : List Str := ["_law_falling", "_law_stored", "_law_own"]
theorem sc_law_held : FnScope N_law_held ["_law_falling", "_law_stored"] (defScope s_law_held) := ⟨rfl, rfl, rfl, by decide +kernel, rfl, by decide +kernel, by decide +kernel⟩
theorem w_law_held {P : Program} {w : World} {K : PySem.W.Frag} {mg : Str → Option Value} {base : Heap} (T : Tp K mg)  : FnE P w K mg base 1 (He.ga K "_law_held") ["_law_falling", "_law_stored"] [] (sp_law_held K) := by
  refine fne T.f_law_held sc_law_held (fun _ _ _ _ h => h.1) (fun _ _ _ _ _ _ us hl => match us, hl with | [_, _], _ => rfl) fun cdv A outer s H vs Q E hr hsp => ?_
  have nd := sc_law_held.nd
  refine ⟨_, (pss_cons (ps_for PassesOwn.never rfl (pi_list (pv 1) : PI _ _ _ (iList K _)) (pgn 2 nd) (pss_one (ps_if (PW.pt (pw_and (pt_cmpR op_le (pe_ix (r := rIxL K) ix_list (pv 2) pe_int (fun _ _ => rfl)) (pe_ix (r := rIxL K) ix_list (pv 0) pe_int (fun _ _ => rfl)) (nomark _)) (pw_and (pt_cmpR op_le (pe_ix (r := rIxL K) ix_list (pv 2) pe_int (fun _ _ => rfl)) (pe_ix (r := rIxL K) ix_list (pv 0) pe_int (fun _ _ => rfl)) (nomark _)) (pw_and1 (pt_cmpR op_le (pe_ix (r := rIxL K) ix_list (pv 2) pe_int (fun _ _ => rfl)) (pe_ix (r := rIxL K) ix_list (pv 0) pe_int (fun _ _ => rfl)) (nomark _)))))) (pss_one (ps_ret pe_bl)) pss_nil)))
      (pss_one (ps_ret pe_bl))), ?_⟩
  replace hsp := hsp.2
  obtain ⟨fa, st, f, rs, ss, rfl, hf, f3, hs, hss, q⟩ := hsp
  refine ⟨_, rfl, st, rfl, ⟨_, sq_of hs⟩, forE (walk_list (xs := rs.map V.ref)) (fun i σ H' => H' = H ∧ (∃ o, σ = [some (.ref fa), some (.ref st), o]) ∧ ∀ j x, j < i → ss[j]? = some x → leM x f = false) ⟨rfl, ⟨none, rfl⟩, fun j x hj => absurd hj (Nat.not_lt_zero _)⟩ (fun i σ H' _ pv => by rw [pv.1]; exact sq_of hs) (fun i y σ H1 H2 N hi pv hy k => ?_) fun σ H' pv => ?_⟩
  · obtain ⟨rfl, ⟨o, rfl⟩, hno⟩ := pv
    obtain ⟨rfl, hy⟩ := hy
    rw [List.getElem?_map] at hy
    obtain ⟨r, hr1, rfl⟩ := Option.map_eq_some_iff.mp hy
    obtain ⟨x, hx, x1, x2⟩ := pr_at hss hr1
    have next : leM x f = false → N [some (.ref fa), some (.ref st), some (.ref r)] H2 := fun e => k _ _ ⟨rfl, ⟨_, rfl⟩, fun j x2 hj hx2 => by
      rcases Nat.lt_succ_iff_lt_or_eq.mp hj with z | z
      · exact hno j x2 z hx2
      · subst z
        rw [hx] at hx2
        cases hx2
        exact e⟩
    have neg : ¬ (gN x 0 ≤ gN f 0 ∧ gN x 1 ≤ gN f 1 ∧ gN x 2 ≤ gN f 2) → leM x f = false := fun h => by
      rw [← Bool.not_eq_true, leM_iff]
      exact h
    refine ⟨_, rfl, r, _, 0, _, rfl, rfl, sq_of x1, vi_get (k := 0) (by omega), _, rfl, fa, _, 0, _, rfl, rfl, sq_of hf, vi_get (k := 0) (by omega), _, _, rfl, rfl, _, rfl, ?_⟩
    by_cases c0 : gN x 0 ≤ gN f 0
    · refine iteT (decide_eq_true c0) ⟨_, rfl, r, _, 1, _, rfl, rfl, sq_of x1, vi_get (k := 1) (by omega), _, rfl, fa, _, 1, _, rfl, rfl, sq_of hf, vi_get (k := 1) (by omega), _, _, rfl, rfl, _, rfl, ?_⟩
      by_cases c1 : gN x 1 ≤ gN f 1
      · refine iteT (decide_eq_true c1) ⟨_, rfl, r, _, 2, _, rfl, rfl, sq_of x1, vi_get (k := 2) (by omega), _, rfl, fa, _, 2, _, rfl, rfl, sq_of hf, vi_get (k := 2) (by omega), _, _, rfl, rfl, _, rfl, ?_⟩
        by_cases c2 : gN x 2 ≤ gN f 2
        · refine iteT (decide_eq_true c2) ?_
          have hh : lheldM f ss = true := List.any_eq_true.mpr ⟨x, List.mem_of_getElem? hx, leM_iff.mpr ⟨c0, c1, c2⟩⟩
          rw [hh] at q
          exact q
        · exact iteF (by simpa using c2) (next (neg fun z => c2 z.2.2))
      · exact iteF (by simpa using c1) (iteF (by decide) (next (neg fun z => c1 z.2.1)))
    · exact iteF (by simpa using c0) (iteF (by decide) (next (neg fun z => c0 z.1)))
  · obtain ⟨rfl, _, hno⟩ := pv
    have hh : lheldM f ss = false := by
      rw [← Bool.not_eq_true]
      intro z
      obtain ⟨x, hx, e⟩ := List.any_eq_true.mp z
      obtain ⟨j, hj, ej⟩ := List.mem_iff_getElem.mp hx
      have := hno j x (by rw [List.length_map, hss.length]; exact hj) (by rw [List.getElem?_eq_getElem hj, ej])
      rw [this] at e
      cases e
    rw [hh] at q
    exact q
end BX
/-! the walks: all pairs are held -/
namespace BX
open PySem PySem.Spec PyProof.Rows L2
def sp_law_pairs_held (K : PySem.W.Frag) : Sp := spN 3 fun vs H Q _ => ∃ (o1 o2 st : Addr) (xr yr sr : List Addr) (xs ys ss : List (List Int)), vs = [.ref o1, .ref o2, .ref st] ∧ H o1 = some (.lst (xr.map V.ref)) ∧ IsAt H xr xs ∧ H o2 = some (.lst (yr.map V.ref)) ∧ IsAt H yr ys ∧ H st = some (.lst (sr.map V.ref)) ∧ IsAt H sr ss ∧
  (∀ x ∈ xs, ∀ y ∈ ys, ∀ o ∈ ordersM, ∀ ax, ax < 3 → lheldM (srtI true (besideM x (turnM y o) ax)) ss = true) ∧ ∀ H', Ex H H' → Q (.bl true) H'
abbrev N_law_pairs_held : List Str := ["_law_ones", "_law_others", "_law_stored", "_law_one", "_law_other", "_law_order", "_law_turned", "_law_number", "_law_axis", "_law_three_here", "_law_k"]
theorem sc_law_pairs_held : FnScope N_law_pairs_held ["_law_ones", "_law_others", "_law_stored"] (defScope s_law_pairs_held) := ⟨rfl, rfl, rfl, by decide +kernel, rfl, by decide +kernel, by decide +kernel⟩
theorem w_law_pairs_held {P : Program} {w : World} {K : PySem.W.Frag} {mg : Str → Option Value} {base : Heap} (T : Tp K mg) (F_law_held : FnE P w K mg base 1 (He.ga K "_law_held") ["_law_falling", "_law_stored"] [] (sp_law_held K)) (F_law_orders : FnE P w K mg base 1 (He.ga K "_law_orders") [] [] (sp_law_orders K)) : FnE P w K mg base 2 (He.ga K "_law_pairs_held") ["_law_ones", "_law_others", "_law_stored"] [] (sp_law_pairs_held K) := by
  refine fne T.f_law_pairs_held sc_law_pairs_held (fun _ _ _ _ h => h.1) (fun _ _ _ _ _ _ us hl => match us, hl with | [_, _, _], _ => rfl) fun cdv A outer s H vs Q E hr hsp => ?_
  have nd := sc_law_pairs_held.nd
  refine ⟨_, (pss_cons (ps_for PassesOwn.never rfl (pi_list (pv 0) : PI _ _ _ (iList K _)) (pgn 3 nd) (pss_one (ps_for PassesOwn.never rfl (pi_list (pv 1) : PI _ _ _ (iList K _)) (pgn 4 nd) (pss_one (ps_for PassesOwn.never rfl (pi_list (pcall0 F_law_orders (hr.mono (by decide)) T.g_law_orders) : PI _ _ _ (iList K _)) (pgn 5 nd) (pss_cons (pset 6 nd (pe_lc (own := [("_law_number", 7)]) (g := gName 7) rfl nd (pi_tup (pv 5) : PI _ _ _ (iTup K _)) (blkOk_by (N := N_law_pairs_held) (sc := defScope s_law_pairs_held) (by decide +kernel)) (fun _ _ _ _ _ => (pgn 7 nd)) (fun _ _ _ _ _ => pts_nil) (fun _ _ _ _ _ => (pe_ix (r := rIxL K) ix_list (pv 4) (pv 7) (fun _ _ => rfl)))))
      (pss_one (ps_for PassesOwn.never rfl (pi_range1 (by rfl) T.z_range (pa_cons pe_int pa_nil)) (pgn 8 nd) (pss_cons (ps_setLc (i := 9) (own := [("_law_k", 10)]) (g := gName 10) rfl nd rfl rfl (sw_true rfl rfl rfl (by decide +kernel)) (pi_range1 (by rfl) T.z_range (pa_cons pe_int pa_nil)) (blkOk_by (N := N_law_pairs_held) (sc := defScope s_law_pairs_held) (by decide +kernel)) (fun _ _ _ _ _ => (pgn 10 nd)) (fun _ _ _ _ _ => pts_nil) (fun _ _ _ _ _ => (pe_callB (r := rMax2) (cMax2 rfl) (by rfl) T.z_max (by decide +kernel) (pa_cons (pe_ix (r := rIxL K) ix_list (pv 3) (pv 10) (fun _ _ => rfl)) (pa_cons (pe_ix (r := rIxL K) ix_list (pv 6) (pv 10) (fun _ _ => rfl)) pa_nil)))))
      (pss_cons (ps_asg (pe_op op_add (pe_ix (r := rIxL K) ix_list (pv 3) (pv 8) (fun _ _ => rfl)) (pe_ix (r := rIxL K) ix_list (pv 6) (pv 8) (fun _ _ => rfl))) (pg_sub (pv 9) (pv 8) set_list))
      (pss_one (ps_if (pt_not (pt_val (pcall F_law_held (hr.mono (by decide)) T.g_law_held (pa_cons (pe_callBK (r := rSrtR K) (cSrtR (hu64 hr)) (by rfl) T.z_sorted (by decide +kernel) (pa_cons (pv 9) pa_nil) (pk_cons pe_bl pk_nil)) (pa_cons (pv 2) pa_nil))))) (pss_one (ps_ret pe_bl)) pss_nil))))))))))))
      (pss_one (ps_ret pe_bl))), ?_⟩
  replace hsp := hsp.2
  obtain ⟨o1, o2, st, xr, yr, sr, xs, ys, ss, rfl, h1, hx, h2, hy, hs, hss, hh, q⟩ := hsp
  refine ⟨_, rfl, o1, rfl, ⟨_, sq_of h1⟩, forE (walk_list (xs := xr.map V.ref)) (fun i σ H' => Ex H H' ∧ ∃ a3 a4 a5 a6 a7 a8 a9 a10, σ = [some (.ref o1), some (.ref o2), some (.ref st), a3, a4, a5, a6, a7, a8, a9, a10]) ⟨Ex.refl _, none, none, none, none, none, none, none, none, rfl⟩ (fun i σ H' _ pv => sq_of (pv.1 _ _ h1)) (fun i z σ H1 H2 N hi pv hz k1 => ?_) fun σ H' pv => ?_⟩
  · obtain ⟨e1, a3, a4, a5, a6, a7, a8, a9, a10, rfl⟩ := pv
    obtain ⟨rfl, hz⟩ := hz
    rw [List.getElem?_map] at hz
    obtain ⟨xa, hxa, rfl⟩ := Option.map_eq_some_iff.mp hz
    obtain ⟨x, hxm, x1, x3⟩ := pr_at hx hxa
    refine ⟨_, rfl, o2, rfl, ⟨_, sq_of (e1 _ _ h2)⟩, forE (walk_list (xs := yr.map V.ref)) (fun i σ H' => Ex H H' ∧ ∃ a4 a5 a6 a7 a8 a9 a10, σ = [some (.ref o1), some (.ref o2), some (.ref st), some (.ref xa), a4, a5, a6, a7, a8, a9, a10]) ⟨e1, a4, a5, a6, a7, a8, a9, a10, rfl⟩ (fun i σ H' _ pv => sq_of (pv.1 _ _ h2)) (fun i z σ H3 H4 N2 hi pv hz k2 => ?_) fun σ H' pv => ?_⟩
    · obtain ⟨e2, a4, a5, a6, a7, a8, a9, a10, rfl⟩ := pv
      obtain ⟨rfl, hz⟩ := hz
      rw [List.getElem?_map] at hz
      obtain ⟨ya, hya, rfl⟩ := Option.map_eq_some_iff.mp hz
      obtain ⟨y, hym, y1, y3⟩ := pr_at hy hya
      refine ⟨rfl, H4, rfl, Ex.refl _, fun lo G5 H5 g5 ⟨as, ha, hp⟩ => ?_⟩
      have e5 := e2.trans g5.e
      refine ⟨lo, rfl, ⟨_, sq_of (g5.s _ _ ha)⟩, forE (walk_list (xs := as.map V.ref)) (fun i σ H' => Ex H5 H' ∧ ∃ a5 a6 a7 a8 a9 a10, σ = [some (.ref o1), some (.ref o2), some (.ref st), some (.ref xa), some (.ref ya), a5, a6, a7, a8, a9, a10]) ⟨Ex.refl _, a5, a6, a7, a8, a9, a10, rfl⟩ (fun i σ H' _ pv => sq_of (pv.1 _ _ (g5.s _ _ ha))) (fun i z σ H6 H7 N3 hi pv hz k3 => ?_) fun σ H' pv => ?_⟩
      · obtain ⟨e6, a5, a6, a7, a8, a9, a10, rfl⟩ := pv
        obtain ⟨rfl, hz⟩ := hz
        rw [List.getElem?_map] at hz
        obtain ⟨oa, hoa, rfl⟩ := Option.map_eq_some_iff.mp hz
        obtain ⟨o, hod, hot⟩ := pr_at hp hoa
        have hom : o ∈ ordersM := List.mem_of_getElem? hod
        have l3 := orders_len o hom
        have hoT := e6 _ _ (g5.s _ _ hot)
        have e7 := e5.trans e6
        refine ⟨_, rfl, oa, rfl, ⟨_, st_of hoT⟩, fun D nD => lcE (walk_tup (xs := natsV o)) (fun j => (o[j]?).map fun k => V.int (gN y k)) nD (sz_lt (by unfold natsV; rw [List.length_map]; omega)) (fun H8 e => st_of (e _ _ hoT)) (fun j v H8 H9 R S hj e8 hy8 kk1 kk2 => ?_) fun H8 e8 hD => ?_⟩
        · obtain ⟨rfl, hy8⟩ := hy8
          unfold natsV at hy8
          rw [List.getElem?_map] at hy8
          obtain ⟨kk, hkk, rfl⟩ := Option.map_eq_some_iff.mp hy8
          have klt := orders_lt o hom kk (List.mem_of_getElem? hkk)
          exact ⟨rfl, yes (iteT rfl ⟨_, rfl, _, rfl, ya, _, _, _, rfl, rfl, sq_of (e8 _ _ (e7 _ _ y1)), vi_get (by omega), kk1 _ _ (Ex.refl _) (by rw [hkk] <;> rfl)⟩)⟩
        · unfold natsV at hD
          rw [List.length_map, fm_map] at hD
          have hT : H8 D = some (.lst ((turnM y o).map V.int)) := by
            rw [hD]
            unfold turnM
            rw [List.map_map] <;> rfl
          have lT : (turnM y o).length = 3 := by rw [turnM_len, l3]
          have eA := e7.trans e8
          refine ⟨_, rfl, by decide, by decide, forE (walk_rg (n := 3)) (fun i σ H' => Ex H8 H' ∧ ∃ a7 a8 a9 a10, σ = [some (.ref o1), some (.ref o2), some (.ref st), some (.ref xa), some (.ref ya), some (.ref oa), some (.ref D), a7, a8, a9, a10]) ⟨Ex.refl _, _, _, _, _, rfl⟩ (fun _ _ _ _ _ => trivial) (fun ax z σ HA HB N4 hax pv hz k4 => ?_) fun σ H' pv => ?_⟩
          · obtain ⟨eB, a7, a8, a9, a10, rfl⟩ := pv
            obtain ⟨rfl, rfl⟩ := hz
            have eC := eA.trans eB
            have hx1 := eC _ _ x1
            have hT1 := eB _ _ hT
            generalize hts : turnM y o = ts at *
            refine ⟨_, rfl, by decide, by decide, fun D2 nD2 => lcE (walk_rg (n := 3)) (fun i => some (.int (max (gN x i) (gN ts i)))) nD2 (sz_lt (by decide)) (fun _ _ => trivial) (fun i v HC HD R S hi2 e9 hv kk1 kk2 => ?_) fun HC e9 hD2 => ?_⟩
            · obtain ⟨rfl, rfl⟩ := hv
              refine ⟨rfl, yes (iteT rfl ⟨_, rfl, _, rfl, xa, _, _, _, rfl, rfl, sq_of (e9 _ _ hx1), vi_get (by omega), _, rfl, _, rfl, D, _, _, _, rfl, rfl, sq_of (e9 _ _ hT1), vi_get (by omega), _, _, rfl, kk1 _ _ (Ex.refl _) ?_⟩)⟩
              exact congrArg (fun z => some (V.int z)) (max_if _ _).symm
            · replace hD2 : HC D2 = some (.lst [.int (max (gN x 0) (gN ts 0)), .int (max (gN x 1) (gN ts 1)), .int (max (gN x 2) (gN ts 2))]) := hD2
              refine ⟨_, rfl, _, rfl, xa, _, _, _, rfl, rfl, sq_of (e9 _ _ hx1), vi_get (k := ax) (by omega), _, rfl, _, rfl, D, _, _, _, rfl, rfl, sq_of (e9 _ _ hT1), vi_get (k := ax) (by omega), _, _, rfl, rfl, _, rfl, _, rfl, D2, _, _, ax, rfl, rfl, hD2, ?_, ?_⟩
              · rcases (show ax = 0 ∨ ax = 1 ∨ ax = 2 by omega) with r | r | r <;> rw [r] <;> rfl
              have hB : ([.int (max (gN x 0) (gN ts 0)), .int (max (gN x 1) (gN ts 1)), .int (max (gN x 2) (gN ts 2))] : List V).set ax (.int (gN x ax + gN ts ax)) = (besideM x ts ax).map V.int := by
                rcases (show ax = 0 ∨ ax = 1 ∨ ax = 2 by omega) with r | r | r <;> subst r <;> rfl
              have eD : ∀ {L : HO}, Ex HB (upd HC D2 L) := fun {L} b u hb => by
                rw [upd_ne (ne_of_none hb nD2)]
                exact e9 b u hb
              refine ⟨_, rfl, D2, besideM x ts ax, rfl, rfl, .inl (sq_of (by rw [upd_same]; exact congrArg (fun l => some (HO.lst l)) hB)), fun p np => ⟨_, rfl, rfl, p, st, _, sr, ss, rfl, upd_same, by rw [srtI_len] <;> rfl, ?_, ?_, _, rfl, ?_⟩⟩
              · exact upk ((eC.trans eD) _ _ hs) np
              · exact hss.ex ((eC.trans eD).trans (Ex.new np))
              have hl := hh x (List.mem_of_getElem? hxm) y (List.mem_of_getElem? hym) o hom ax hax
              rw [hts] at hl
              rw [hl]
              exact iteF (by decide) (k4 _ _ ⟨(eB.trans eD).trans (Ex.new np), _, _, _, _, rfl⟩)
          · obtain ⟨eB, a7, a8, a9, a10, rfl⟩ := pv
            exact k3 _ _ ⟨(e6.trans e8).trans eB, _, _, _, _, _, _, rfl⟩
      · obtain ⟨e6, a5, a6, a7, a8, a9, a10, rfl⟩ := pv
        exact k2 _ _ ⟨e5.trans e6, _, _, _, _, _, _, _, rfl⟩
    · obtain ⟨e2, a4, a5, a6, a7, a8, a9, a10, rfl⟩ := pv
      exact k1 _ _ ⟨e2, _, _, _, _, _, _, _, _, rfl⟩
  · obtain ⟨e1, _⟩ := pv
    exact q _ e1
end BX
/-! the walks: a list is right -/
namespace BX
open PySem PySem.Spec PyProof.Rows L2
theorem cutF_from {α : Type} (f : α → V) {n : Nat} {c : List α} : cutV (c.map f) (some ((n : Nat) : Int)) none = (c.drop n).map f := by
  unfold cutV
  rw [HT.sIx_nat, HT.sIx_none, ← List.map_drop, List.map_drop, List.take_of_length_le (by rw [List.length_drop]; omega), ← List.map_drop]
  congr 1
  rw [List.length_map]
  rcases Nat.le_total n c.length with h | h
  · rw [Nat.min_eq_left h]
  · rw [Nat.min_eq_right h, List.drop_length, List.drop_eq_nil_of_le h]
theorem cutF_to {α : Type} (f : α → V) {n : Nat} {c : List α} : cutV (c.map f) none (some ((n : Nat) : Int)) = (c.take n).map f := by
  unfold cutV
  rw [HT.sIx_nat, HT.sIx_none, List.drop_zero, Nat.sub_zero, ← List.map_take, List.length_map]
  congr 1
  rcases Nat.le_total n c.length with h | h
  · rw [Nat.min_eq_left h]
  · rw [Nat.min_eq_right h, List.take_length, List.take_of_length_le h]
theorem pr_take {α β : Type} {F : α → β → Prop} : ∀ {l : List α} {m : List β} (k : Nat), Paired F l m → Paired F (l.take k) (m.take k)
  | _, _, 0, _ => by
    rw [List.take_zero, List.take_zero]
    exact .nil
  | _, _, k + 1, .nil => .nil
  | _, _, k + 1, .cons h t => .cons h (pr_take k t)
theorem pr_drop {α β : Type} {F : α → β → Prop} : ∀ {l : List α} {m : List β} (k : Nat), Paired F l m → Paired F (l.drop k) (m.drop k)
  | _, _, 0, h => h
  | _, _, k + 1, .nil => .nil
  | _, _, k + 1, .cons _ t => pr_drop k t
abbrev Sn : Type := List (List Str × List (List Int))
def getS (tb : Sn) (c : List Str) : List (List Int) := ((tb.find? fun p => decide (p.1 = c)).map (·.2)).getD []
/-- the dict of the spans -/
def SpAt (G : Hp) (kvs : List (List L2.Key × V)) (tb : Sn) : Prop := Paired (fun kv cl => kv.1 = keyM cl.1 ∧ ∃ l rs, kv.2 = .ref l ∧ G l = some (.lst (rs.map V.ref)) ∧ IsAt G rs cl.2) kvs tb
theorem SpAt.ex {G G' : Hp} {kvs : List (List L2.Key × V)} {tb : Sn} (h : SpAt G kvs tb) (e : Ex G G') : SpAt G' kvs tb := Paired.mapP h fun _ _ ⟨h1, l, rs, h2, h3, h4⟩ => ⟨h1, l, rs, h2, e _ _ h3, h4.ex e⟩
theorem getS_cons (c d : List Str) (l : List (List Int)) (tb : Sn) : getS ((d, l) :: tb) c = if d = c then l else getS tb c := by
  unfold getS
  rw [List.find?_cons]
  by_cases e : d = c <;> simp [e]
theorem sp_get {G : Hp} : ∀ {kvs : List (List L2.Key × V)} {tb : Sn} {c : List Str}, SpAt G kvs tb → c ∈ tb.map (·.1) → ∃ l rs, valV kvs (keyM c) = some (.ref l) ∧ G l = some (.lst (rs.map V.ref)) ∧ IsAt G rs (getS tb c)
  | _, _, c, .nil, h => by cases h
  | kv :: kvs, (d, ls) :: tb, c, .cons ⟨h1, l, rs, h2, h3, h4⟩ t, h => by
    by_cases e : d = c
    · refine ⟨l, rs, ?_, h3, ?_⟩
      · rw [valV_pos (by rw [h1, ← e]), h2]
      · rw [getS_cons, if_pos e]
        exact h4
    · have h5 : c ∈ tb.map (·.1) := by
        rcases List.mem_cons.mp h with z | z
        · exact absurd z.symm e
        · exact z
      obtain ⟨l2, rs2, g1, g2, g3⟩ := sp_get (kvs := kvs) t h5
      refine ⟨l2, rs2, ?_, g2, ?_⟩
      · rw [valV_neg (fun z => e (key_inj (h1.symm.trans z))), g1]
      · rw [getS_cons, if_neg e]
        exact g3
/-- what the law asks of the list of a choice -/
structure ListOk (tb : Sn) (c : List Str) : Prop where
  anti : ∀ (k : Nat) (s : List Int), (getS tb c)[k]? = some s → lheldM (srtI true s) (((getS tb c).map (srtI true)).take k ++ ((getS tb c).map (srtI true)).drop (k + 1)) = false
  pairs : ∀ pr ∈ partingsM c, ∀ x ∈ getS tb pr.1, ∀ y ∈ getS tb pr.2, ∀ o ∈ ordersM, ∀ ax, ax < 3 → lheldM (srtI true (besideM x (turnM y o) ax)) ((getS tb c).map (srtI true)) = true
def sp_law_list_right (K : PySem.W.Frag) : Sp := spN 2 fun vs H Q _ => ∃ (ca sp : Addr) (c : List Str) (kvs : List (List L2.Key × V)) (tb : Sn), vs = [.ref ca, .ref sp] ∧ TupS H ca c ∧ H sp = some (.dT kvs) ∧ SpAt H kvs tb ∧ 1 ≤ c.length ∧ c.length ≤ 4 ∧ c ∈ tb.map (·.1) ∧ (∀ pr ∈ partingsM c, pr.1 ∈ tb.map (·.1) ∧ pr.2 ∈ tb.map (·.1)) ∧ (getS tb c).length ≤ 200000 ∧ ListOk tb c ∧
  ∀ H', Ex H H' → Q (.bl true) H'
abbrev N_law_list_right : List Str := ["_law_choice", "_law_spans", "_law_stored", "_law_three_here", "_law_k", "_law_many", "_law_more", "_law_part", "_law_rest", "_law_name"]
theorem sc_law_list_right : FnScope N_law_list_right ["_law_choice", "_law_spans"] (defScope s_law_list_right) := ⟨rfl, rfl, rfl, by decide +kernel, rfl, by decide +kernel, by decide +kernel⟩
theorem w_law_list_right {P : Program} {w : World} {K : PySem.W.Frag} {mg : Str → Option Value} {base : Heap} (T : Tp K mg) (F_law_choices : FnE P w K mg base 5 (He.ga K "_law_choices") ["_law_names_here", "_law_many"] [] (sp_law_choices K)) (F_law_held : FnE P w K mg base 1 (He.ga K "_law_held") ["_law_falling", "_law_stored"] [] (sp_law_held K)) (F_law_pairs_held : FnE P w K mg base 2 (He.ga K "_law_pairs_held") ["_law_ones", "_law_others", "_law_stored"] [] (sp_law_pairs_held K)) : FnE P w K mg base 6 (He.ga K "_law_list_right") ["_law_choice", "_law_spans"] [] (sp_law_list_right K) := by
  refine fne T.f_law_list_right sc_law_list_right (fun _ _ _ _ h => h.1) (fun _ _ _ _ _ _ us hl => match us, hl with | [_, _], _ => rfl) fun cdv A outer s H vs Q E hr hsp => ?_
  have nd := sc_law_list_right.nd
  refine ⟨_, (pss_cons (ps_setLc (i := 2) (own := [("_law_three_here", 3)]) (g := gName 3) rfl nd rfl rfl (sw_true rfl rfl rfl (by decide +kernel)) (pi_list (pe_dget (hu_of hr) (pv 1) (pv 0) (fun _ _ => rfl)) : PI _ _ _ (iList K _)) (blkOk_by (N := N_law_list_right) (sc := defScope s_law_list_right) (by decide +kernel)) (fun _ _ _ _ _ => (pgn 3 nd)) (fun _ _ _ _ _ => pts_nil) (fun _ _ _ _ _ => (pe_callBK (r := rSrtR K) (cSrtR (hu64 hr)) (by rfl) T.z_sorted (by decide +kernel) (pa_cons (pv 3) pa_nil) (pk_cons pe_bl pk_nil))))
      (pss_cons (ps_for PassesOwn.never rfl (pi_range1 (by rfl) T.z_range (pa_cons (pe_callB (r := rLenQ K) cLenQ (by rfl) T.z_len (by decide +kernel) (pa_cons (pv 2) pa_nil)) pa_nil)) (pgn 4 nd) (pss_one (ps_if (pt_val (pcall F_law_held (hr.mono (by decide)) T.g_law_held (pa_cons (pe_ix (r := rIxL K) ix_list (pv 2) (pv 4) (fun _ _ => rfl)) (pa_cons (pe_op op_cat (pe_slice (r := rSlL K) sl_list (pv 2) po_none (po_some (pv 4))) (pe_slice (r := rSlL K) sl_list (pv 2) (po_some (pe_op op_add (pv 4) pe_int)) po_none)) pa_nil)))) (pss_one (ps_ret pe_bl)) pss_nil)))
      (pss_cons (ps_for PassesOwn.never rfl (pi_range1 (by rfl) T.z_range (pa_cons (pe_op op_sub (pe_callB (r := rLenQ K) cLenQ (by rfl) T.z_len (by decide +kernel) (pa_cons (pv 0) pa_nil)) pe_int) pa_nil)) (pgn 5 nd) (pss_one (ps_for PassesOwn.never rfl (pi_list (pcall F_law_choices (hr.mono (by decide)) T.g_law_choices (pa_cons (pe_slice (r := rSlA K) sl_tupA (pv 0) (po_some pe_int) po_none) (pa_cons (pv 5) pa_nil))) : PI _ _ _ (iList K _)) (pgn 6 nd) (pss_cons (pset 7 nd (pe_op (r := rCatA K) op_catA (pe_slice (r := rSlA K) sl_tupA (pv 0) po_none (po_some pe_int)) (pv 6)))
      (pss_cons (pset 8 nd (pe_callTy (r := rTupQ K) cTupQ (by rfl) T.z_tuple (by decide +kernel) (pa_cons (pe_lc (own := [("_law_name", 9)]) (g := gName 9) rfl nd (pi_tup (pv 0) : PI _ _ _ (iTup K _)) (blkOk_by (N := N_law_list_right) (sc := defScope s_law_list_right) (by decide +kernel)) (fun _ _ _ _ _ => (pgn 9 nd)) (fun _ _ _ _ _ => (pts_one (pt_cmpR (r := rIn K true) op_notIn_seq (pv 9) (pv 7) (by rfl)))) (fun _ _ _ _ _ => (pv 9))) pa_nil)))
      (pss_one (ps_if (pt_not (pt_val (pcall F_law_pairs_held (hr.mono (by decide)) T.g_law_pairs_held (pa_cons (pe_dget (hu_of hr) (pv 1) (pv 7) (fun _ _ => rfl)) (pa_cons (pe_dget (hu_of hr) (pv 1) (pv 8) (fun _ _ => rfl)) (pa_cons (pv 2) pa_nil)))))) (pss_one (ps_ret pe_bl)) pss_nil)))))))
      (pss_one (ps_ret pe_bl))))), ?_⟩
  replace hsp := hsp.2
  obtain ⟨ca, sp, c, kvs, tb, rfl, tc, hsp', htb, c1, c4, hck, hpk, hlen, ok, q⟩ := hsp
  obtain ⟨l, lr, v1, hl, hls⟩ := sp_get htb hck
  refine ⟨_, rfl, _, rfl, sp, _, rfl, (by rw [← v1]; exact DGet.t hsp' (by rw [keyV]; exact tc)), l, rfl, ⟨_, sq_of hl⟩, fun D nD => lcP (m := none) (walk_list (xs := lr.map V.ref)) (Gr.start (Ex.refl H)) nD (fun _ z => by cases z) (sz_lt (by rw [List.length_map, hls.length]; omega))
    (fun j G5 H5 acc => ∃ r5, acc = r5.map V.ref ∧ IsAt G5 r5 (((getS tb c).take j).map (srtI true))) (fun j G5 H5 acc _ g _ _ => sq_of (g.s _ _ (g.g _ _ hl))) ⟨[], rfl, .nil⟩ (fun j v G5 H5 acc H6 N1 S1 hj g6 e6 gD hD hR hy6 k2 k3 => ?_) fun G5 H5 acc g6 e6 gD hD hR => ?_⟩
  · obtain ⟨r5, rfl, hr5⟩ := hR
    obtain ⟨rfl, hy6⟩ := hy6
    rw [List.getElem?_map] at hy6
    obtain ⟨rj, hrj, rfl⟩ := Option.map_eq_some_iff.mp hy6
    obtain ⟨sj, hsj, s1, s3⟩ := pr_at hls hrj
    refine ⟨rfl, yes (iteT rfl ⟨_, rfl, rj, sj, rfl, rfl, .inl (sq_of (g6.e _ _ s1)), fun p np => ?_⟩)⟩
    refine k2 _ _ _ (g6.new np) (e6.trans (Ex.new (back g6.s np))) (upn gD hD np) (upk hD np) ⟨r5 ++ [p], by rw [List.map_append] <;> rfl, ?_⟩
    rw [take_snoc hsj, List.map_append]
    exact pr_app (hr5.ex (Ex.new (back g6.s np))) (.cons ⟨upd_same, by rw [srtI_len, s3]⟩ .nil)
  obtain ⟨sr, rfl, hsr⟩ := hR
  rw [List.length_map, hls.length, List.take_length] at hsr
  have eH := g6.e
  have sl : sr.length = (getS tb c).length := by
    have z : sr.length = _ := hsr.length
    rw [List.length_map] at z
    exact z
  have hsr' := hsr.ex g6.s
  refine ⟨_, rfl, D, _, rfl, .inl (sq_of hD), _, rfl, by rw [List.length_map]; omega, by rw [List.length_map]; omega, ?_⟩
  rw [List.length_map, Int.toNat_natCast]
  refine forE (walk_rg (n := sr.length)) (fun i σ H' => Ex H5 H' ∧ ∃ a3 a4 a5 a6 a7 a8 a9, σ = [some (.ref ca), some (.ref sp), some (.ref D), a3, a4, a5, a6, a7, a8, a9]) ⟨Ex.refl _, none, none, none, none, none, none, none, rfl⟩ (fun _ _ _ _ _ => trivial) (fun i z σ H1 H2 N hi pv hz k1 => ?_) fun σ H' pv => ?_
  · obtain ⟨e1, a3, a4, a5, a6, a7, a8, a9, rfl⟩ := pv
    obtain ⟨rfl, rfl⟩ := hz
    have hD1 := e1 _ _ hD
    obtain ⟨r, hr1⟩ : ∃ r, sr[i]? = some r := ⟨sr[i], List.getElem?_eq_getElem hi⟩
    obtain ⟨x, hx, x1, x3⟩ := pr_at (hsr'.ex e1) hr1
    rw [List.getElem?_map] at hx
    obtain ⟨s, hs, rfl⟩ := Option.map_eq_some_iff.mp hx
    have ci : (((i : Nat) : Int) + 1) = ((i + 1 : Nat) : Int) := by omega
    refine ⟨_, rfl, _, rfl, D, _, _, _, rfl, rfl, sq_of hD1, atI_nat (by rw [List.getElem?_map, hr1] <;> rfl), ?_⟩
    refine ⟨_, rfl, _, rfl, _, rfl, D, _, rfl, sq_of hD1, fun p np => ?_⟩
    rw [cutF_to]
    have hD2 := upk (x := .lst ((sr.take i).map V.ref)) hD1 np
    refine ⟨_, rfl, ⟨_, rfl, _, _, rfl, rfl, _, rfl, ?_⟩⟩
    rw [ci]
    refine ⟨D, _, rfl, sq_of hD2, fun p2 np2 => ?_⟩
    rw [cutF_from]
    refine ⟨p, p2, _, _, rfl, rfl, upk upd_same np2, upd_same, ?_, fun p3 np3 => ?_⟩
    · rw [List.length_map, List.length_map, List.length_take, List.length_drop]
      exact sz_of (by omega)
    have e3 := ((Ex.new (o := .lst ((sr.take i).map V.ref)) np).trans (Ex.new (o := .lst ((sr.drop (i + 1)).map V.ref)) np2)).trans (Ex.new (o := .lst ((sr.take i).map V.ref ++ (sr.drop (i + 1)).map V.ref)) np3)
    have hh := hsr'.ex (e1.trans e3)
    refine ⟨rfl, r, p3, srtI true s, sr.take i ++ sr.drop (i + 1), ((getS tb c).map (srtI true)).take i ++ ((getS tb c).map (srtI true)).drop (i + 1), rfl, e3 _ _ x1, x3, by rw [upd_same, List.map_append], pr_app (pr_take i hh) (pr_drop (i + 1) hh), _, rfl, ?_⟩
    rw [ok.anti i s hs]
    exact iteF (by decide) (k1 _ _ ⟨e1.trans e3, _, _, _, _, _, _, _, rfl⟩)
  · obtain ⟨e1, a3, a4, a5, a6, a7, a8, a9, rfl⟩ := pv
    have eA := eH.trans e1
    have hDA := e1 _ _ hD
    have tcA := eA _ _ tc
    have hssA := hsr'.ex e1
    generalize hSS : (getS tb c).map (srtI true) = SS at *
    refine ⟨_, rfl, ca, _, rfl, .inr (st_of tcA), _, _, rfl, rfl, ((c.length - 1 : Nat) : Int), by rw [List.length_map]; exact congrArg (fun z => [V.int z]) (by omega), by omega, by omega, ?_⟩
    rw [Int.toNat_natCast]
    refine forE (walk_rg (n := c.length - 1)) (fun i σ H'' => Ex H' H'' ∧ ∃ a3 a4 a5 a6 a7 a8 a9, σ = [some (.ref ca), some (.ref sp), some (.ref D), a3, a4, a5, a6, a7, a8, a9]) ⟨Ex.refl _, _, _, _, _, _, _, _, rfl⟩ (fun _ _ _ _ _ => trivial) (fun i z σ H1 H2 N hi pv hz k1 => ?_) fun σ H'' pv => ?_
    · obtain ⟨e2, a3, a4, a5, a6, a7, a8, a9, rfl⟩ := pv
      obtain ⟨rfl, rfl⟩ := hz
      have tc2 := e2 _ _ tcA
      have c1' : ((1 : Int)) = ((1 : Nat) : Int) := rfl
      refine ⟨_, rfl, _, rfl, ca, _, rfl, st_of tc2, fun z => ?_, fun _ p np => ?_⟩
      · exfalso
        have z1 := z.1
        rw [c1', HT.sIx_nat, List.length_map] at z1
        omega
      rw [c1', cut_from]
      refine ⟨_, rfl, rfl, _, p, c.drop 1, i, rfl, Ex.refl _, upd_same, by rw [List.length_drop]; omega, (show i ≤ 4 by omega), fun lc rsc G4 H4 g4 hlc hrc => ?_⟩
      have e4 : Ex H2 H4 := (Ex.new np).trans g4.e
      have hrc4 := hrc.ex g4.s
      refine ⟨lc, rfl, ⟨_, sq_of (g4.s _ _ hlc)⟩, forE (walk_list (xs := rsc.map V.ref)) (fun j σ H5 => Ex H4 H5 ∧ ∃ a6 a7 a8 a9, σ = [some (.ref ca), some (.ref sp), some (.ref D), a3, a4, some (.int (i : Nat)), a6, a7, a8, a9]) ⟨Ex.refl _, _, _, _, _, rfl⟩ (fun j σ H5 _ pv => sq_of (pv.1 _ _ (g4.s _ _ hlc))) (fun j z σ H5 H6 N2 hj pv hy k2 => ?_) fun σ H5 pv => ?_⟩
      · obtain ⟨e5, a6, a7, a8, a9, rfl⟩ := pv
        obtain ⟨rfl, hy⟩ := hy
        rw [List.getElem?_map] at hy
        obtain ⟨rj, hrj, rfl⟩ := Option.map_eq_some_iff.mp hy
        obtain ⟨more, hmore, tj⟩ := pr_at (hrc4.ex e5) hrj
        have e6 := (e2.trans e4).trans e5
        have t6 := e6 _ _ tcA
        have lm := (chosenM_mem (List.mem_of_getElem? hmore)).2.length_le
        rw [List.length_drop] at lm
        have hpr : (c.take 1 ++ more, c.filter fun n => decide (n ∉ c.take 1 ++ more)) ∈ partingsM c :=
          List.mem_flatMap.mpr ⟨i, List.mem_range.mpr hi, List.mem_map.mpr ⟨more, List.mem_of_getElem? hmore, rfl⟩⟩
        obtain ⟨k3, k4⟩ := hpk _ hpr
        obtain ⟨l1, r1, w1, w2, w3⟩ := sp_get htb k3
        obtain ⟨l2, r2, w4, w5, w6⟩ := sp_get htb k4
        have fin : ∀ (pa : Addr) (H7 : Hp), Ex H6 H7 → TupS H7 pa (c.take 1 ++ more) →
            tSeq (tAsg (tCB (rTupQ K) (tCons (tLc (iTup K (tVar 0)) (gName 9) (tTest (tOp (rIn K true) (tVar 9) (tVar 7))) (tVar 9) [9]) tNil)) (gName 8)) (tIfS (tNot (tB (tCall (sp_law_pairs_held K) [] E0 (tCons (tDGet (tVar 1) (tVar 7)) (tCons (tDGet (tVar 1) (tVar 8)) (tCons (tVar 2) tNil)))))) (tRet (tC (.bl false))) tNext)
              { nx := N2, rt := Q, bk := N, ct := N2 } [some (.ref ca), some (.ref sp), some (.ref D), a3, a4, some (.int (i : Nat)), some (.ref rj), some (.ref pa), a8, a9] H7 := by
          intro pa H7 e7 hpa
          have t7 : H7 ca = some (.tup (c.map V.str)) := e7 _ _ t6
          refine ⟨_, rfl, ca, rfl, ⟨_, st_of t7⟩, fun D2 nD2 => lcE (walk_tup (xs := c.map V.str)) (fun m => (c[m]?).bind fun n => if n ∉ c.take 1 ++ more then some (V.str n) else none) nD2 (sz_lt (by rw [List.length_map]; omega)) (fun H8 e8 => st_of (e8 _ _ t7)) (fun m v H8 H9 R S hm e8 hy8 kk1 kk2 => ?_) fun H8 e8 hD8 => ?_⟩
          · obtain ⟨rfl, hy8⟩ := hy8
            rw [List.getElem?_map] at hy8
            obtain ⟨n, hn, rfl⟩ := Option.map_eq_some_iff.mp hy8
            rw [hn] at kk1 kk2
            refine ⟨rfl, _, rfl, _, rfl, pa, _, rfl, .inr (st_of (e8 _ _ hpa)), rfl, flat_strs _, _, rfl, ?_⟩
            by_cases e : n ∈ c.take 1 ++ more
            · refine iteF ?_ (kk2 _ (Ex.refl _) (by simp only [Option.bind_some]; exact if_neg (fun z => z e)))
              show ¬ (!inV (.str n) ((c.take 1 ++ more).map V.str)) = true
              rw [inV_str, decide_eq_true e]
              decide
            · refine iteT ?_ ⟨_, rfl, kk1 _ _ (Ex.refl _) (by simp only [Option.bind_some]; exact if_pos e)⟩
              show (!inV (.str n) ((c.take 1 ++ more).map V.str)) = true
              rw [inV_str, decide_eq_false e]
              rfl
          · have hD9 : H8 D2 = some (.lst ((c.filter fun n => decide (n ∉ c.take 1 ++ more)).map V.str)) := by
              rw [hD8, List.length_map, fm_list (fun n => if n ∉ c.take 1 ++ more then some (V.str n) else none) c, fm_if]
            refine ⟨D2, _, rfl, .inl ⟨sq_of hD9, fun b nb => ?_⟩⟩
            have e9 : Ex H8 (upd H8 b (.tup ((c.filter fun n => decide (n ∉ c.take 1 ++ more)).map V.str))) := Ex.new nb
            have eT := (((eA.trans e6).trans e7).trans e8).trans e9
            have eS := ((e6.trans e7).trans e8).trans e9
            refine ⟨_, rfl, _, rfl, sp, _, rfl, (by rw [← w1]; exact DGet.t (eT _ _ hsp') (by rw [keyV]; exact e9 _ _ (e8 _ _ hpa))), ?_⟩
            refine ⟨_, rfl, _, rfl, sp, _, rfl, (by rw [← w4]; exact DGet.t (eT _ _ hsp') (by rw [keyV]; exact upd_same)), ?_⟩
            refine ⟨_, rfl, rfl, l1, l2, D, r1, r2, sr, _, _, SS, rfl, eT _ _ w2, w3.ex eT, eT _ _ w5, w6.ex eT, eS _ _ hDA, hssA.ex eS, ?_, fun H9 e10 => ⟨_, rfl, iteF (by decide) (k2 _ _ ⟨(((e5.trans e7).trans e8).trans e9).trans e10, _, _, _, _, rfl⟩)⟩⟩
            rw [← hSS]
            exact ok.pairs _ hpr
        refine ⟨_, rfl, _, rfl, ca, _, rfl, st_of t6, fun z => ?_, fun _ a na => ?_⟩
        · exfalso
          have z1 := z.2
          rw [HT.sIx_nat, List.length_map] at z1
          omega
        rw [cut_to]
        refine ⟨_, rfl, a, rj, _, _, rfl, rfl, st_of upd_same, st_of (upk tj na), ?_, fun z => ?_, fun _ z => ?_, fun _ _ p2 np2 => ?_⟩
        · rw [List.length_map, List.length_map, List.length_take]
          exact sz_of (by omega)
        · exfalso
          have l1 : (c.take 1).length = 0 := by
            have := congrArg List.length z
            rw [List.length_map] at this
            exact this
          rw [List.length_take] at l1
          omega
        · have e0 : more = [] := by
            cases more with
            | nil => rfl
            | cons _ _ => cases z
          refine fin a _ (Ex.new na) ?_
          rw [e0, List.append_nil]
          exact upd_same
        · refine fin p2 _ ((Ex.new na).trans (Ex.new np2)) ?_
          show upd _ p2 _ p2 = _
          rw [upd_same, List.map_append]
      · obtain ⟨e5, a6, a7, a8, a9, rfl⟩ := pv
        exact k1 _ _ ⟨(e2.trans e4).trans e5, _, _, _, _, _, _, _, rfl⟩
    · obtain ⟨e2, _⟩ := pv
      exact q _ (eA.trans e2)
end BX
/-! the walks: ranked, stood -/
namespace BX
open PySem PySem.Spec PyProof.Rows L2
theorem rank_len {sides : Str → List Int} {p : Pap} (h : papOk p) : (srtI true (spanM sides p)).length = 3 := by rw [srtI_len, span_len h]
def sp_law_ranked (K : PySem.W.Frag) : Sp := spN 2 fun vs H Q _ => ∃ (bk l : Addr) (kvs : List (L2.Key × V)) (bs : Bk) (ws : List V) (ps : List Pap), vs = [.ref bk, .ref l] ∧ H bk = some (.dK kvs) ∧ BsAt H kvs bs ∧ H l = some (.lst ws) ∧ DpAll K H ws (ps.map papD) ∧ ps.length ≤ 200000 ∧ (∀ p ∈ ps, papOk p ∧ papDep p ≤ 5 ∧ ∀ n ∈ papN p, n ∈ bs.map (·.1)) ∧
  ∀ l2 rs H', H l2 = none → Ex H H' → H' l2 = some (.lst (rs.map V.ref)) → IsAt H' rs (ps.map fun p => srtI true (spanM (sidesB bs) p)) → Q (.ref l2) H'
abbrev N_law_ranked : List Str := ["_law_book_here", "_law_papers", "_law_paper"]
theorem sc_law_ranked : FnScope N_law_ranked ["_law_book_here", "_law_papers"] (defScope s_law_ranked) := ⟨rfl, rfl, rfl, by decide +kernel, rfl, by decide +kernel, by decide +kernel⟩
theorem w_law_ranked {P : Program} {w : World} {K : PySem.W.Frag} {mg : Str → Option Value} {base : Heap} (T : Tp K mg) (F_law_span : FnE P w K mg base 5 (He.ga K "_law_span") ["_law_book_here", "_law_paper"] [] (sp_law_span K)) : FnE P w K mg base 6 (He.ga K "_law_ranked") ["_law_book_here", "_law_papers"] [] (sp_law_ranked K) := by
  refine fne T.f_law_ranked sc_law_ranked (fun _ _ _ _ h => h.1) (fun _ _ _ _ _ _ us hl => match us, hl with | [_, _], _ => rfl) fun cdv A outer s H vs Q E hr hsp => ?_
  have nd := sc_law_ranked.nd
  refine ⟨_, (pss_one (ps_ret (pe_lc (own := [("_law_paper", 2)]) (g := gName 2) rfl nd (pi_list (pv 1) : PI _ _ _ (iList K _)) (blkOk_by (N := N_law_ranked) (sc := defScope s_law_ranked) (by decide +kernel)) (fun _ _ _ _ _ => (pgn 2 nd)) (fun _ _ _ _ _ => pts_nil) (fun _ _ _ _ _ => (pe_callBK (r := rSrtR K) (cSrtR (hu64 hr)) (by rfl) T.z_sorted (by decide +kernel) (pa_cons (pcall F_law_span (hr.mono (by decide)) T.g_law_span (pa_cons (pv 0) (pa_cons (pv 2) pa_nil))) pa_nil) (pk_cons pe_bl pk_nil)))))), ?_⟩
  replace hsp := hsp.2
  obtain ⟨bk, l, kvs, bs, ws, ps, rfl, hbk, hbs, hl, hd, hz, hp, q⟩ := hsp
  have wl : ws.length = ps.length := by
    rw [dpAll_length hd, List.length_map]
  refine ⟨_, rfl, l, rfl, ⟨_, sq_of hl⟩, fun D nD => lcP (m := none) (walk_list (xs := ws)) (Gr.start (Ex.refl H)) nD (fun _ z => by cases z) (sz_lt (by omega))
    (fun j G5 H5 acc => ∃ r5, acc = r5.map V.ref ∧ IsAt G5 r5 ((ps.take j).map fun p => srtI true (spanM (sidesB bs) p))) (fun j G5 H5 acc _ g _ _ => sq_of (g.s _ _ (g.g _ _ hl))) ⟨[], rfl, .nil⟩ (fun j v G5 H5 acc H6 N1 S1 hj g6 e6 gD hD hR hy6 k2 k3 => ?_) fun G5 H5 acc g6 e6 gD hD hR => ?_⟩
  · obtain ⟨r5, rfl, hr5⟩ := hR
    obtain ⟨rfl, hy6⟩ := hy6
    obtain ⟨dd, hdd, hdp⟩ := dpAll_at hd hy6
    rw [List.getElem?_map] at hdd
    obtain ⟨p, hpj, rfl⟩ := Option.map_eq_some_iff.mp hdd
    obtain ⟨p1, p2, p3⟩ := hp p (List.mem_of_getElem? hpj)
    refine ⟨rfl, yes (iteT rfl ⟨_, rfl, _, rfl, rfl, H, bk, kvs, bs, v, p, rfl, g6.e, g6.e _ _ hbk, hbs, hdp, p1, p2, p3, fun l3 H7 n3 e7 hl3 => ⟨l3, spanM (sidesB bs) p, rfl, rfl, .inl (sq_of hl3), fun r nr => ?_⟩⟩)⟩
    have g7 := g6.exH e7
    refine k2 _ _ _ (g7.new nr) (e6.trans (Ex.new (back g7.s nr))) (upn gD (e7 _ _ hD) nr) (upk (e7 _ _ hD) nr) ⟨r5 ++ [r], by rw [List.map_append] <;> rfl, ?_⟩
    rw [take_snoc hpj, List.map_append]
    exact pr_app (hr5.ex (Ex.new (back g7.s nr))) (.cons ⟨upd_same, rank_len p1⟩ .nil)
  · obtain ⟨r5, rfl, hr5⟩ := hR
    rw [wl, List.take_length] at hr5
    exact q D r5 H5 nD g6.e hD (hr5.ex g6.s)
def sp_law_stood (K : PySem.W.Frag) : Sp := spN 1 fun vs H Q _ => ∃ (a dx l : Addr) (rs : List Addr) (ps : List Pcl), vs = [.ref a] ∧ HeapIn K H a dx l rs ps ∧ ∀ l2 H', H l2 = none → Ex H H' → H' l2 = some (.lst ((ps.map strP).map V.str)) → Q (.ref l2) H'
abbrev N_law_stood : List Str := ["_law_kept", "_law_parcel"]
theorem sc_law_stood : FnScope N_law_stood ["_law_kept"] (defScope s_law_stood) := ⟨rfl, rfl, rfl, by decide +kernel, rfl, by decide +kernel, by decide +kernel⟩
theorem w_law_stood {P : Program} {w : World} {K : PySem.W.Frag} {mg : Str → Option Value} {base : Heap} (T : Tp K mg) (F_Heap_parcels : FnE P w K mg base 1 (He.ma K (He.ga K "Heap") "parcels") ["self"] [] (sp_Heap_parcels K)) (F_Parcel_str : FnE P w K mg base 4 (He.ma K (He.ga K "Parcel") "__str__") ["self"] [] (sp_Parcel_str K)) : FnE P w K mg base 7 (He.ga K "_law_stood") ["_law_kept"] [] (sp_law_stood K) := by
  refine fne T.f_law_stood sc_law_stood (fun _ _ _ _ h => h.1) (fun _ _ _ _ _ _ us hl => match us, hl with | [_], _ => rfl) fun cdv A outer s H vs Q E hr hsp => ?_
  have nd := sc_law_stood.nd
  refine ⟨_, (pss_one (ps_ret (pe_lc (own := [("_law_parcel", 1)]) (g := gName 1) rfl nd (pi_list (pmeth0 (pv 0) T.c_Heap T.m_Heap_parcels F_Heap_parcels (hr.mono (by decide))) : PI _ _ _ (iList K _)) (blkOk_by (N := N_law_stood) (sc := defScope s_law_stood) (by decide +kernel)) (fun _ _ _ _ _ => (pgn 1 nd)) (fun _ _ _ _ _ => pts_nil) (fun _ _ _ _ _ => (pe_callTy (r := rStrO (He.ga K "Parcel") _) (cStrO T.m_Parcel_str F_Parcel_str (hr.mono (by decide))) (by rfl) T.z_str (by decide +kernel) (pa_cons (pv 1) pa_nil)))))), ?_⟩
  replace hsp := hsp.2
  obtain ⟨a, dx, l, rs, ps, rfl, hh, q⟩ := hsp
  refine ⟨_, rfl, a, dx, _, rfl, hh.at_, rfl, rfl, a, dx, l, rs, ps, rfl, hh, fun p np => ?_⟩
  have e0 := Ex.new (o := .lst (rs.map V.ref)) np
  have h0 := hh.ex e0
  refine ⟨p, rfl, ⟨_, sq_of upd_same⟩, fun D nD => lcE (walk_list (xs := rs.map V.ref)) (fun i => (ps[i]?).map fun p => V.str (strP p)) nD (sz_lt (by rw [List.length_map, hh.rl]; have := hh.le; omega)) (fun H1 e => sq_of (e _ _ upd_same)) (fun i y H1 H2 R S hi e hy k1 k2 => ?_) fun H1 e hD1 => ?_⟩
  · obtain ⟨rfl, hy⟩ := hy
    rw [List.getElem?_map] at hy
    obtain ⟨r, hr1, rfl⟩ := Option.map_eq_some_iff.mp hy
    obtain ⟨pc, hpc, pa⟩ := pr_at (h0.ex e).par hr1
    obtain ⟨dp, s1, m, g1, _⟩ := id pa
    exact ⟨rfl, yes (iteT rfl ⟨_, rfl, r, dp, _, rfl, g1, rfl, r, pc, rfl, pa, fun H3 e3 => ⟨⟨_, rfl⟩, k1 _ _ e3 (by rw [hpc] <;> rfl)⟩⟩)⟩
  · refine q D _ (back e0 nD) (e0.trans e) ?_
    rw [hD1, List.length_map, hh.rl, fm_map, List.map_map] <;> rfl
end BX
/-! the walks: shown -/
namespace BX
open PySem PySem.Spec PyProof.Rows L2
def getP (pt : Pt) (c : List Str) : List Pap := ((pt.find? fun p => decide (p.1 = c)).map (·.2)).getD []
def PtAt (K : PySem.W.Frag) (H : Hp) (kvs : List (List L2.Key × V)) (pt : Pt) : Prop := Paired (fun kv cp => kv.1 = keyM cp.1 ∧ ∃ l vs, kv.2 = .ref l ∧ H l = some (.lst vs) ∧ DpAll K H vs (cp.2.map papD)) kvs pt
theorem PtAt.ex {K : PySem.W.Frag} {G G' : Hp} {kvs : List (List L2.Key × V)} {pt : Pt} (h : PtAt K G kvs pt) (e : Ex G G') : PtAt K G' kvs pt := Paired.mapP h fun _ _ ⟨h1, l, vs, h2, h3, h4⟩ => ⟨h1, l, vs, h2, e _ _ h3, BX.DpAll.ex h4 e⟩
theorem getP_cons (c d : List Str) (l : List Pap) (pt : Pt) : getP ((d, l) :: pt) c = if d = c then l else getP pt c := by
  unfold getP
  rw [List.find?_cons]
  by_cases e : d = c <;> simp [e]
theorem pt_get {K : PySem.W.Frag} {G : Hp} : ∀ {kvs : List (List L2.Key × V)} {pt : Pt} {c : List Str}, PtAt K G kvs pt → c ∈ pt.map (·.1) → ∃ l vs, valV kvs (keyM c) = some (.ref l) ∧ G l = some (.lst vs) ∧ DpAll K G vs ((getP pt c).map papD)
  | _, _, c, .nil, h => by cases h
  | kv :: kvs, (d, ls) :: pt, c, .cons ⟨h1, l, vs, h2, h3, h4⟩ t, h => by
    by_cases e : d = c
    · refine ⟨l, vs, ?_, h3, ?_⟩
      · rw [valV_pos (by rw [h1, ← e]), h2]
      · rw [getP_cons, if_pos e]
        exact h4
    · have h5 : c ∈ pt.map (·.1) := by
        rcases List.mem_cons.mp h with z | z
        · exact absurd z.symm e
        · exact z
      obtain ⟨l2, vs2, g1, g2, g3⟩ := pt_get (kvs := kvs) t h5
      refine ⟨l2, vs2, ?_, g2, ?_⟩
      · rw [valV_neg (fun z => e (key_inj (h1.symm.trans z))), g1]
      · rw [getP_cons, if_neg e]
        exact g3
def spansM (sides : Str → List Int) (pt : Pt) : Sn := pt.map fun cp => (cp.1, cp.2.map (spanM sides))
theorem spans_keys (sides : Str → List Int) (pt : Pt) : (spansM sides pt).map (·.1) = pt.map (·.1) := by
  unfold spansM
  rw [List.map_map] <;> rfl
theorem getS_spans (sides : Str → List Int) (c : List Str) : ∀ pt : Pt, getS (spansM sides pt) c = (getP pt c).map (spanM sides)
  | [] => rfl
  | (d, l) :: pt => by
    have h : spansM sides ((d, l) :: pt) = (d, l.map (spanM sides)) :: spansM sides pt := rfl
    rw [h, getS_cons, getP_cons, getS_spans sides c pt]
    split <;> rfl
theorem getP_mem {pt : Pt} (hn : (pt.map (·.1)).Nodup) {cp : List Str × List Pap} (h : cp ∈ pt) : getP pt cp.1 = cp.2 := by
  induction pt with
  | nil => cases h
  | cons p r ih =>
    obtain ⟨d, l⟩ := p
    rw [getP_cons]
    rcases List.mem_cons.mp h with e | e
    · rw [e, if_pos rfl]
    · obtain ⟨n1, n2⟩ := List.nodup_cons.mp hn
      have ne : ¬ d = cp.1 := fun z => n1 (List.mem_map.mpr ⟨cp, e, z.symm⟩)
      rw [if_neg ne, ih n2 e]
/-- a told table that the law finds right -/
structure Shown (sides : Str → List Int) (ns : List Str) (pt : Pt) : Prop where
  keys : pt.map (·.1) = choicesM ns
  some_ : ∀ c ∈ choicesM ns, getP pt c ≠ []
  short : ∀ c ∈ choicesM ns, (getP pt c).length ≤ 200000
  paps : ∀ c ∈ choicesM ns, ∀ p ∈ getP pt c, papOk p ∧ papDep p ≤ c.length ∧ (papN p).Perm c
  right : ∀ c ∈ choicesM ns, ListOk (spansM sides pt) c
theorem eqvs_strs : ∀ l : List Str, PyData.eqvAll (l.map PyData.str) (l.map PyData.str) = true
  | [] => by simp [PyData.eqvAll]
  | a :: l => by
    rw [List.map_cons]
    simp only [PyData.eqvAll, Bool.and_eq_true]
    exact ⟨by simp [PyData.eqv], eqvs_strs l⟩
theorem eqv_strs (l : List Str) : PyData.eqv (.list (l.map PyData.str)) (.list (l.map PyData.str)) = true := by
  simp only [PyData.eqv]
  exact eqvs_strs l
theorem shaped_strs {l : List Str} (hl : ∀ x ∈ l, PyData.strOk x = true) : PySem.SeqAt.shaped (.list (l.map PyData.str)) = true := by
  have h1 : ∀ l : List Str, (∀ x ∈ l, PyData.strOk x = true) → PyData.canLayAll0 (l.map PyData.str) = true := fun l => by
    induction l with
    | nil => exact fun _ => by simp [PyData.canLayAll0]
    | cons a l ih =>
      intro h
      rw [List.map_cons]
      simp only [PyData.canLayAll0, PyData.canLay0, Bool.and_eq_true]
      exact ⟨h a (List.mem_cons_self ..), ih fun x hx => h x (List.mem_cons_of_mem _ hx)⟩
  have h2 : ∀ l : List Str, PyData.depthAll (l.map PyData.str) = 0 := fun l => by
    induction l with
    | nil => simp [PyData.depthAll]
    | cons a l ih =>
      rw [List.map_cons]
      simp only [PyData.depthAll, PyData.depth, ih]
      rfl
  unfold PySem.SeqAt.shaped
  rw [Bool.and_eq_true]
  exact ⟨by simp only [PyData.canLay0]; exact h1 l hl, by simp only [PyData.depth, h2]; decide⟩
def sp_law_shown (K : PySem.W.Frag) : Sp := spN 3 fun vs H Q _ => ∃ (bk t d : Addr) (kvb : List (L2.Key × V)) (bs : Bk) (ns : List Str) (kvd : List (List L2.Key × V)) (pt : Pt), vs = [.ref bk, .ref t, .ref d] ∧ H bk = some (.dK kvb) ∧ BsAt H kvb bs ∧ H t = some (.lst (ns.map V.str)) ∧ ns.length ≤ 4 ∧ ns.Nodup ∧ (∀ n ∈ ns, n ∈ bs.map (·.1)) ∧ (∀ n ∈ ns, PyData.strOk n = true) ∧ H d = some (.dT kvd) ∧ PtAt K H kvd pt ∧ Shown (sidesB bs) ns pt ∧
  ∀ H', Ex H H' → Q (.bl true) H'
abbrev N_law_shown : List Str := ["_law_book_here", "_law_names_here", "_law_thing", "_law_choices_here", "_law_spans", "_law_choice", "_law_paper", "_law_found"]
theorem sc_law_shown : FnScope N_law_shown ["_law_book_here", "_law_names_here", "_law_thing"] (defScope s_law_shown) := ⟨rfl, rfl, rfl, by decide +kernel, rfl, by decide +kernel, by decide +kernel⟩
theorem w_law_shown {P : Program} {w : World} {K : PySem.W.Frag} {mg : Str → Option Value} {base : Heap} (T : Tp K mg) (F_law_all_choices : FnE P w K mg base 6 (He.ga K "_law_all_choices") ["_law_names_here"] [] (sp_law_all_choices K)) (F_law_list_right : FnE P w K mg base 6 (He.ga K "_law_list_right") ["_law_choice", "_law_spans"] [] (sp_law_list_right K)) (F_law_named : FnE P w K mg base 7 (He.ga K "_law_named") ["_law_book_here", "_law_thing"] [] (sp_law_named K)) (F_law_span : FnE P w K mg base 5 (He.ga K "_law_span") ["_law_book_here", "_law_paper"] [] (sp_law_span K)) : FnE P w K mg base 8 (He.ga K "_law_shown") ["_law_book_here", "_law_names_here", "_law_thing"] [] (sp_law_shown K) := by
  refine fne T.f_law_shown sc_law_shown (fun _ _ _ _ h => h.1) (fun _ _ _ _ _ _ us hl => match us, hl with | [_, _, _], _ => rfl) fun cdv A outer s H vs Q E hr hsp => ?_
  have nd := sc_law_shown.nd
  refine ⟨_, (pss_cons (pset 3 nd (pcall F_law_all_choices (hr.mono (by decide)) T.g_law_all_choices (pa_cons (pv 1) pa_nil)))
      (pss_cons (ps_if (PW.pt (pw_or (pt_not (pt_val (pe_callB (r := rIsi K) call_isi (by rfl) T.z_isinstance (by decide +kernel) (pa_cons (pv 2) (pa_cons (pty (n := "dict") T.z_dict) pa_nil))))) (pw_or1 (pt_cmpR op_ne (pe_callB call_len_dT (by rfl) T.z_len (by decide +kernel) (pa_cons (pv 2) pa_nil)) (pe_callB (r := rLenQ K) cLenQ (by rfl) T.z_len (by decide +kernel) (pa_cons (pv 3) pa_nil)) (nomark _))))) (pss_one (ps_ret pe_bl)) pss_nil)
      (pss_cons (pset 4 nd pe_dnewT)
      (pss_cons (ps_for PassesOwn.never rfl (pi_list (pv 3) : PI _ _ _ (iList K _)) (pgn 5 nd) (pss_cons (ps_if (PW.pt (pw_or (pt_cmp (pc_dnotin (hu_of hr) (pv 5) (pv 2))) (pw_or (pt_not (pt_val (pe_callB (r := rIsi K) call_isi (by rfl) T.z_isinstance (by decide +kernel) (pa_cons (pe_dget (hu_of hr) (pv 2) (pv 5) (fun _ _ => rfl)) (pa_cons (pty (n := "list") T.z_list) pa_nil))))) (pw_or1 (pt_cmpR op_eq (pe_callB (r := rLenQ K) cLenQ (by rfl) T.z_len (by decide +kernel) (pa_cons (pe_dget (hu_of hr) (pv 2) (pv 5) (fun _ _ => rfl)) pa_nil)) pe_int (nomark _)))))) (pss_one (ps_ret pe_bl)) pss_nil)
      (pss_cons (ps_for PassesOwn.never rfl (pi_list (pe_dget (hu_of hr) (pv 2) (pv 5) (fun _ _ => rfl)) : PI _ _ _ (iList K _)) (pgn 6 nd) (pss_cons (pset 7 nd (pcall F_law_named (hr.mono (by decide)) T.g_law_named (pa_cons (pv 0) (pa_cons (pv 6) pa_nil))))
      (pss_one (ps_if (PW.pt (pw_or (pt_cmpR op_isN (pv 7) pe_non (nomark _)) (pw_or1 (pt_cmpR (r := rNeD K) (op_neD hr.units) (pe_callB (r := rSrtS K) (cSrtS (hu64 hr)) (by rfl) T.z_sorted (by decide +kernel) (pa_cons (pv 7) pa_nil)) (pe_callB (r := rSrtS K) (cSrtS (hu64 hr)) (by rfl) T.z_sorted (by decide +kernel) (pa_cons (pv 5) pa_nil)) (nomark _))))) (pss_one (ps_ret pe_bl)) pss_nil))))
      (pss_one (ps_dput (hu_of hr) (pv 4) (pv 5) (pe_lc (own := [("_law_paper", 6)]) (g := gName 6) rfl nd (pi_list (pe_dget (hu_of hr) (pv 2) (pv 5) (fun _ _ => rfl)) : PI _ _ _ (iList K _)) (blkOk_by (N := N_law_shown) (sc := defScope s_law_shown) (by decide +kernel)) (fun _ _ _ _ _ => (pgn 6 nd)) (fun _ _ _ _ _ => pts_nil) (fun _ _ _ _ _ => (pcall F_law_span (hr.mono (by decide)) T.g_law_span (pa_cons (pv 0) (pa_cons (pv 6) pa_nil))))) rfl)))))
      (pss_one (ps_ret (pe_cmpR (r := rEqD K) (op_eqD hr.units) (pe_lc (own := [("_law_choice", 5)]) (g := gName 5) rfl nd (pi_list (pv 3) : PI _ _ _ (iList K _)) (blkOk_by (N := N_law_shown) (sc := defScope s_law_shown) (by decide +kernel)) (fun _ _ _ _ _ => (pgn 5 nd)) (fun _ _ _ _ _ => (pts_one (pt_not (pt_val (pcall F_law_list_right (hr.mono (by decide)) T.g_law_list_right (pa_cons (pv 5) (pa_cons (pv 4) pa_nil))))))) (fun _ _ _ _ _ => (pv 5))) (pe_lst pa_nil) (nomark _)))))))), ?_⟩
  replace hsp := hsp.2
  obtain ⟨bk, t, d, kvb, bs, ns, kvd, pt, rfl, hbk, hbs, ht, n4, hN, hsub, hstr, hd, hpt, sh, q⟩ := hsp
  refine ⟨_, rfl, rfl, H, t, ns, rfl, Ex.refl _, ht, n4, fun cl crs G1 H1 g1 hcl hcr => ?_⟩
  have lk : kvd.length = crs.length := by
    rw [hpt.length, hcr.length, ← sh.keys, List.length_map]
  have hd1 := g1.e _ _ hd
  refine ⟨_, rfl, _, _, _, _, true, rfl, .ty _, .base (.dT hd1), ki_dd, _, rfl, iteF (by decide) ?_⟩
  refine ⟨_, rfl, d, kvd, rfl, hd1, _, rfl, cl, _, rfl, .inl (sq_of (g1.s _ _ hcl)), rfl, _, rfl, iteF (by rw [List.length_map, lk]; simp) ?_⟩
  intro sp nsp
  have gA : Gr none H H G1 (upd H1 sp (.dT [])) := g1.mut (back g1.e nsp) (back g1.s nsp)
  have spH : H sp = none := back g1.e nsp
  refine ⟨_, rfl, cl, rfl, ⟨_, sq_of (upk (g1.s _ _ hcl) nsp)⟩, forE (walk_list (xs := crs.map V.ref)) (fun i σ H' => ∃ G' a5 a6 a7 kvs, σ = [some (.ref bk), some (.ref t), some (.ref d), some (.ref cl), some (.ref sp), a5, a6, a7] ∧ Gr none H H G' H' ∧ Ex G1 G' ∧ G' sp = none ∧ H' sp = some (.dT kvs) ∧ SpAt G' kvs ((spansM (sidesB bs) pt).take i))
    ⟨G1, none, none, none, [], rfl, gA, Ex.refl _, back g1.s nsp, upd_same, .nil⟩ (fun i σ H' _ pv => ?_) (fun i z σ H2 H3 N hi pv hy k1 => ?_) fun σ H' pv => ?_⟩
  · obtain ⟨G', _, _, _, _, _, g, e, _⟩ := pv
    exact sq_of (g.s _ _ (e _ _ hcl))
  · obtain ⟨G2, a5, a6, a7, kvs, rfl, g2, e2, gs2, hs2, hsp2⟩ := pv
    obtain ⟨rfl, hy⟩ := hy
    rw [List.getElem?_map] at hy
    obtain ⟨ca, hca, rfl⟩ := Option.map_eq_some_iff.mp hy
    obtain ⟨c, hc, tc⟩ := pr_at (hcr.ex e2) hca
    have hcm : c ∈ choicesM ns := List.mem_of_getElem? hc
    have hck : c ∈ pt.map (·.1) := by
      rw [sh.keys]
      exact hcm
    have csub := (mem_choices.mp hcm).1
    obtain ⟨l, vs, v1, hl, hdv⟩ := pt_get hpt hck
    have tcH : H3 ca = some (.tup (c.map V.str)) := g2.s _ _ tc
    have dg : ∀ {H' : Hp}, Ex H3 H' → DGet H' d (.ref ca) (some (.ref l)) := fun e => by
      rw [← v1]
      exact DGet.t (e _ _ (g2.e _ _ hd)) (by rw [keyV]; exact e _ _ tcH)
    have dg0 := dg (Ex.refl H3)
    have hl3 := g2.e _ _ hl
    have vl : vs.length = (getP pt c).length := by
      rw [dpAll_length hdv, List.length_map]
    have vne : vs.length ≠ 0 := fun z => sh.some_ c hcm (List.length_eq_zero_iff.mp (vl.symm.trans z))
    refine ⟨_, rfl, _, rfl, d, _, rfl, dg0, _, rfl, iteF (by simp) ?_⟩
    refine ⟨_, rfl, _, rfl, d, _, rfl, dg0, _, _, _, _, true, rfl, .ty _, .base (.lst hl3), ki_ll, _, rfl, iteF (by decide) ?_⟩
    refine ⟨_, rfl, _, rfl, d, _, rfl, dg0, l, _, rfl, .inl (sq_of hl3), rfl, _, rfl, iteF (by simp; exact fun z => vne (by rw [z] <;> rfl)) ?_⟩
    refine ⟨_, rfl, _, rfl, d, _, rfl, dg0, l, rfl, ⟨_, sq_of hl3⟩, forE (walk_list (xs := vs)) (fun j σ H' => Ex H3 H' ∧ ∃ a6 a7, σ = [some (.ref bk), some (.ref t), some (.ref d), some (.ref cl), some (.ref sp), some (.ref ca), a6, a7]) ⟨Ex.refl _, a6, a7, rfl⟩ (fun j σ H' _ pv => sq_of (pv.1 _ _ hl3)) (fun j z σ H4 H5 N2 hj pv hy k2 => ?_) fun σ H' pv => ?_⟩
    · obtain ⟨e4, a6, a7, rfl⟩ := pv
      obtain ⟨rfl, hy⟩ := hy
      obtain ⟨dd, hdd, hdp⟩ := dpAll_at hdv hy
      rw [List.getElem?_map] at hdd
      obtain ⟨p, hpj, rfl⟩ := Option.map_eq_some_iff.mp hdd
      obtain ⟨p1, p2, p3⟩ := sh.paps c hcm p (List.mem_of_getElem? hpj)
      have lc := csub.length_le
      have hso : PySem.SeqAt.shaped (.list ((srtS c).map PyData.str)) = true := shaped_strs fun x hx => hstr x (csub.subset ((List.mergeSort_perm c _).subset hx))
      have lp : (papN p).length = c.length := p3.length_eq
      have eH := g2.e.trans e4
      refine ⟨_, rfl, _, rfl, rfl, H, bk, kvb, bs, z, p, rfl, eH, eH _ _ hbk, hbs, hdp, p1, (show papDep p ≤ 5 by omega), by omega, fun n hn => hsub n (csub.subset (p3.subset hn)), fun r1 H6 n1 e6 hr1 => ?_⟩
      refine ⟨_, rfl, rfl, _, rfl, iteF (by simp) ?_⟩
      refine ⟨_, rfl, r1, papN p, rfl, .inl (sq_of hr1), fun q1 m1 => ⟨_, rfl, ca, c, rfl, .inr (st_of (upk (e6 _ _ (e4 _ _ tcH)) m1)), fun q2 m2 => ⟨.list ((srtS c).map .str), .list ((srtS c).map .str), .lst (sq_of (upk (by rw [upd_same, srtS_perm p3]) m2)) (dp_strs _), .lst (sq_of upd_same) (dp_strs _), hso, hso, _, rfl, ?_⟩⟩⟩
      rw [eqv_strs]
      exact iteF (by decide) (k2 _ _ ⟨((e4.trans e6).trans (Ex.new m1)).trans (Ex.new m2), _, _, rfl⟩)
    · obtain ⟨e4, a6, a7, rfl⟩ := pv
      have gB := g2.exH e4
      have hl4 := e4 _ _ hl3
      have hs4 := e4 _ _ hs2
      have kN : (pt.map (·.1)).Nodup := by
        rw [sh.keys]
        exact choices_nodup hN
      obtain ⟨cp, hcp, ecp⟩ : ∃ cp, pt[i]? = some cp ∧ cp.1 = c := by
        have z : (pt.map (·.1))[i]? = some c := by
          rw [sh.keys]
          exact hc
        rw [List.getElem?_map] at z
        exact Option.map_eq_some_iff.mp z
      have egp : getP pt c = cp.2 := by
        rw [← ecp]
        exact getP_mem kN (List.mem_of_getElem? hcp)
      have spi : (spansM (sidesB bs) pt)[i]? = some (c, (getP pt c).map (spanM (sidesB bs))) := by
        unfold spansM
        rw [List.getElem?_map, hcp, egp, ← ecp] <;> rfl
      refine ⟨_, rfl, _, rfl, d, _, rfl, dg e4, l, rfl, ⟨_, sq_of hl4⟩, fun D nD => lcP (m := none) (walk_list (xs := vs)) (Gr.start (m := none) gB.s) nD (fun _ z => by cases z) (sz_lt (by have := sh.short c hcm; omega))
        (fun j G5 H5 acc => ∃ r5, acc = r5.map V.ref ∧ IsAt G5 r5 (((getP pt c).take j).map (spanM (sidesB bs)))) (fun j G5 H5 acc _ g _ _ => sq_of (g.e _ _ hl4)) ⟨[], rfl, .nil⟩ (fun j v G5 H5 acc H6 N1 S1 hj g6 e6 gD hD hR hy6 k2 k3 => ?_) fun G5 H5 acc g6 e6 gD hD hR => ?_⟩
      · obtain ⟨r5, rfl, hr5⟩ := hR
        obtain ⟨rfl, hy6⟩ := hy6
        obtain ⟨dd, hdd, hdp⟩ := dpAll_at hdv hy6
        rw [List.getElem?_map] at hdd
        obtain ⟨p, hpj, rfl⟩ := Option.map_eq_some_iff.mp hdd
        obtain ⟨p1, p2, p3⟩ := sh.paps c hcm p (List.mem_of_getElem? hpj)
        have lc := csub.length_le
        refine ⟨rfl, yes (iteT rfl ⟨_, rfl, _, rfl, rfl, H, bk, kvb, bs, v, p, rfl, gB.e.trans g6.e, (gB.e.trans g6.e) _ _ hbk, hbs, hdp, p1, (show papDep p ≤ 5 by omega), fun n hn => hsub n (csub.subset (p3.subset hn)), fun l3 H7 n3 e7 hl3' => ?_⟩)⟩
        have g7 := (g6.exH e7).keep (g6.free n3) (back g6.s n3) hl3'
        have hD7 := e7 _ _ hD
        have gD7 : upd G5 l3 (.lst ((spanM (sidesB bs) p).map V.int)) D = none := upn gD hD n3
        refine k2 _ _ _ g7 (e6.trans (Ex.new (back g6.s n3))) gD7 hD7 ⟨r5 ++ [l3], by rw [List.map_append] <;> rfl, ?_⟩
        rw [take_snoc hpj, List.map_append]
        exact pr_app (hr5.ex (Ex.new (back g6.s n3))) (.cons ⟨upd_same, span_len p1⟩ .nil)
      · obtain ⟨r5, rfl, hr5⟩ := hR
        rw [vl, List.take_length] at hr5
        have DH : H D = none := gB.free nD
        have hs5 := g6.e _ _ hs4
        have gs5 := g6.out gs2 hs4
        have gC := gB.step g6
        have gD2 := gC.keep DH gD hD
        have Ds : D ≠ sp := ne_of hD hs5 (fun z => nomatch z)
        have gs6 : upd G5 D (.lst (r5.map V.ref)) sp = none := by
          rw [upd_ne Ds.symm]
          exact gs5
        have eD := Ex.new (o := .lst (r5.map V.ref)) gD
        have hv : valV kvs (keyM c) = none := by
          refine val_no ?_
          intro hm
          have : ∀ {kvs : List (List L2.Key × V)} {tb : Sn}, SpAt G2 kvs tb → kvs.map (·.1) = tb.map fun p => keyM p.1 := fun {kvs tb} h => by
            induction h with
            | nil => rfl
            | cons h t ih => rw [List.map_cons, List.map_cons, h.1, ih]
          rw [this hsp2] at hm
          obtain ⟨p, hpm, epk⟩ := List.mem_map.mp hm
          have e1 : p.1 = c := key_inj epk
          have z : c ∈ ((spansM (sidesB bs) pt).map (·.1)).take i := by
            rw [← List.map_take, ← e1]
            exact List.mem_map_of_mem hpm
          rw [spans_keys, sh.keys] at z
          exact not_before (choices_nodup hN) hc z
        have pu := DPut.t (v := .ref D) hs5 (k := keyM c) (b := ca) (by rw [keyV]; exact g6.e _ _ (e4 _ _ tcH)) (sz_lt (by
          have z1 : kvs.length = _ := hsp2.length
          have z2 := List.length_take_le' i (spansM (sidesB bs) pt)
          have z3 : (spansM (sidesB bs) pt).length = pt.length := List.length_map _
          have z4 : pt.length = (choicesM ns).length := by rw [← sh.keys, List.length_map]
          have z5 : (choicesM ns).length ≤ ns.length * 16 := flat_len (fun m => chosenM ns (m + 1)) 16 (fun m => chosenM_len4 n4 (m + 1)) ns.length
          omega))
        rw [putK_new _ hv] at pu
        refine ⟨_, rfl, _, rfl, sp, _, rfl, pu, k1 _ _ ⟨_, _, _, _, _, rfl, gD2.mut spH gs6, (e2.trans g6.g).trans eD, gs6, upd_same, ?_⟩⟩
        rw [take_snoc spi]
        exact pr_app ((hsp2.ex g6.g).ex eD) (.cons ⟨rfl, D, r5, rfl, upd_same, hr5.ex eD⟩ .nil)
  · obtain ⟨G2, a5, a6, a7, kvs, rfl, g2, e2, gs2, hs2, hsp2⟩ := pv
    have lc : (crs.map V.ref).length = (spansM (sidesB bs) pt).length := by
      have z := congrArg List.length (spans_keys (sidesB bs) pt)
      rw [List.length_map, sh.keys] at z
      rw [List.length_map, hcr.length, z]
    rw [lc, List.take_length] at hsp2
    have hclH := g2.s _ _ (e2 _ _ hcl)
    have hspH := hsp2.ex g2.s
    refine ⟨_, rfl, cl, rfl, ⟨_, sq_of hclH⟩, fun D nD => lcE (walk_list (xs := crs.map V.ref)) (fun _ => none) nD (sz_lt (by rw [List.length_map, hcr.length]; have := flat_len (fun m => chosenM ns (m + 1)) 16 (fun m => chosenM_len4 n4 (m + 1)) ns.length; unfold choicesM; omega)) (fun H1 e => sq_of (e _ _ hclH)) (fun i y H6 H7 R S hi e hy k1 k2 => ?_) fun H6 e hD => ?_⟩
    · obtain ⟨rfl, hy⟩ := hy
      rw [List.getElem?_map] at hy
      obtain ⟨ca, hca, rfl⟩ := Option.map_eq_some_iff.mp hy
      obtain ⟨c, hc, tc⟩ := pr_at (hcr.ex (e2.trans g2.s)) hca
      have hcm : c ∈ choicesM ns := List.mem_of_getElem? hc
      have cs := mem_choices.mp hcm
      have kin : ∀ e ∈ choicesM ns, e ∈ (spansM (sidesB bs) pt).map (·.1) := fun e he => by
        rw [spans_keys, sh.keys]
        exact he
      have gl : (getS (spansM (sidesB bs) pt) c).length ≤ 200000 := by
        rw [getS_spans, List.length_map]
        exact sh.short c hcm
      refine ⟨rfl, _, rfl, _, rfl, rfl, ca, sp, c, kvs, _, rfl, e _ _ tc, e _ _ hs2, hspH.ex e, List.length_pos_iff.mpr cs.2, Nat.le_trans cs.1.length_le n4, kin c hcm, fun pr hpr => ?_, gl, sh.right c hcm, fun H8 e8 => ⟨_, rfl, iteF (by decide) (k2 _ e8 rfl)⟩⟩
      have k := part_ok (cs.1.nodup hN) (p := pr.1) (r := pr.2) hpr
      exact ⟨kin _ (choice_sub hcm k.sp k.p1), kin _ (choice_sub hcm k.sr k.r1)⟩
    · have hD2 : H6 D = some (.lst []) := by
        rw [hD]
        have z : ∀ n, (List.range n).filterMap (fun _ => (none : Option V)) = [] := fun n => by
          induction n with
          | zero => rfl
          | succ n ih => rw [range_fm, ih] <;> rfl
        rw [z]
      exact ⟨szl (by simp), fun l2 n2 => ⟨.list [], .list [], .lst (sq_of (upk hD2 n2)) .nil, .lst (sq_of upd_same) .nil, rfl, rfl, q _ (g2.e.trans (e.trans (Ex.new n2)))⟩⟩
end BX
/-! the walks: replaced -/
namespace BX
open PySem PySem.Spec PyProof.Rows L2
theorem sides_in {B : Int} {n : Str} : ∀ {bs : Bk}, BookB B bs → n ∈ bs.map (·.1) → ∀ x ∈ sidesB bs n, 1 ≤ x ∧ x ≤ B
  | [], _, h => by cases h
  | b :: bs, hB, h => by
    by_cases e : b.1 = n
    · have s : sidesB (b :: bs) n = b.2 := by
        unfold sidesB
        rw [List.find?_cons_of_pos (by simpa using e)] <;> rfl
      rw [s]
      exact hB b (List.mem_cons_self ..)
    · have s : sidesB (b :: bs) n = sidesB bs n := by
        unfold sidesB
        rw [List.find?_cons_of_neg (by simpa using e)]
      rw [s]
      refine sides_in (fun c hc => hB c (List.mem_cons_of_mem _ hc)) ?_
      rcases List.mem_cons.mp h with z | z
      · exact absurd z.symm e
      · exact z
def sp_law_replaced (K : PySem.W.Frag) : Sp := spN 4 fun vs H Q _ => ∃ (G : Hp) (a dx l bk tw : Addr) (rs : List Addr) (ps : List Pcl) (kvb kvt : List (L2.Key × V)) (bs ts : Bk) (nm : Str), vs = [.ref a, .ref bk, .ref tw, .str nm] ∧ Ex G H ∧ HeapIn K H a dx l rs ps ∧ G a = some (.ins (cH K) dx [("held", .ref l)]) ∧ G l = none ∧ PsAt K G rs ps ∧ (ps.map (·.name)).Nodup ∧ nm ∈ ps.map (·.name) ∧
  H bk = some (.dK kvb) ∧ BsAt G kvb bs ∧ nm ∈ bs.map (·.1) ∧ H tw = some (.dK kvt) ∧ BsAt G kvt ts ∧ nm ∈ ts.map (·.1) ∧ BookB 100000 ts ∧ bs.length ≤ 12 ∧
  ∀ bk2 kv2 rs2 p G' H', Gr (some l) G H G' H' → G' l = none → H' l = some (.lst (rs2.map V.ref)) → PsAt K G' rs2 (ps.eraseIdx ((ps.map (·.name)).idxOf nm) ++ [p]) → p.name = nm → p.three = sidesB ts nm → H bk2 = none → G' bk2 = none → H' bk2 = some (.dK kv2) →
    BsAt G' kv2 (bs.map fun b => if b.1 = nm then (b.1, sidesB ts nm) else b) → Q (.ref bk2) H'
abbrev N_law_replaced : List Str := ["_law_kept", "_law_book_here", "_law_twin", "_law_name", "_law_found"]
theorem sc_law_replaced : FnScope N_law_replaced ["_law_kept", "_law_book_here", "_law_twin", "_law_name"] (defScope s_law_replaced) := ⟨rfl, rfl, rfl, by decide +kernel, rfl, by decide +kernel, by decide +kernel⟩
theorem w_law_replaced {P : Program} {w : World} {K : PySem.W.Frag} {mg : Str → Option Value} {base : Heap} (T : Tp K mg) (F_Heap_out : FnE P w K mg base 3 (He.ma K (He.ga K "Heap") "out") ["self", "name"] [] (sp_Heap_out K)) (F_Heap_put : FnE P w K mg base 3 (He.ma K (He.ga K "Heap") "put") ["self", "parcel", "ahead"] [.non] (sp_Heap_put K)) (F_Parcel_init : FnE P w K mg base 2 (He.ma K (He.ga K "Parcel") "__init__") ["self", "name", "sides", "wall", "weight", "bears", "labels"] [.int 1, .int 0, .int 0, .non] (sp_Parcel_init K)) (F_Sides_init : FnE P w K mg base 2 (He.ma K (He.ga K "Sides") "__init__") ["self", "one", "other", "third"] [] (sp_Sides_init K)) : FnE P w K mg base 4 (He.ga K "_law_replaced") ["_law_kept", "_law_book_here", "_law_twin", "_law_name"] [] (sp_law_replaced K) := by
  refine fne T.f_law_replaced sc_law_replaced (fun _ _ _ _ h => h.1) (fun _ _ _ _ _ _ us hl => match us, hl with | [_, _, _, _], _ => rfl) fun cdv A outer s H vs Q E hr hsp => ?_
  have nd := sc_law_replaced.nd
  refine ⟨_, (pss_cons (ps_expr (pmeth (pv 0) T.c_Heap T.m_Heap_out F_Heap_out (hr.mono (by decide)) (pa_cons (pv 3) pa_nil)))
      (pss_cons (ps_expr (pmeth (pv 0) T.c_Heap T.m_Heap_put F_Heap_put (hr.mono (by decide)) (pa_cons (pmake T.k_Parcel F_Parcel_init (hr.mono (by decide)) T.g_Parcel (pa_cons (pv 3) (pa_cons (pmake T.k_Sides F_Sides_init (hr.mono (by decide)) T.g_Sides (pa_cons (pe_ix (r := rIxL K) ix_list (pe_dget (hu_of hr) (pv 2) (pv 3) (fun _ _ => rfl)) pe_int (fun _ _ => rfl)) (pa_cons (pe_ix (r := rIxL K) ix_list (pe_dget (hu_of hr) (pv 2) (pv 3) (fun _ _ => rfl)) pe_int (fun _ _ => rfl)) (pa_cons (pe_ix (r := rIxL K) ix_list (pe_dget (hu_of hr) (pv 2) (pv 3) (fun _ _ => rfl)) pe_int (fun _ _ => rfl)) pa_nil)))) pa_nil))) pa_nil)))
      (pss_cons (pset 4 nd (pe_callTy (r := rDictD) cDictD (by rfl) T.z_dict (by decide +kernel) (pa_cons (pv 1) pa_nil)))
      (pss_cons (ps_dput (hu_of hr) (pv 4) (pv 3) (pe_dget (hu_of hr) (pv 2) (pv 3) (fun _ _ => rfl)) rfl)
      (pss_one (ps_ret (pv 4))))))), ?_⟩
  replace hsp := hsp.2
  obtain ⟨G, a, dx, l, bk, tw, rs, ps, kvb, kvt, bs, ts, nm, rfl, s0, hh, ga, gl, hps, hN, hnm, hbk, hbs, hbn, htw, hts, htn, hB, b12, q⟩ := hsp
  obtain ⟨p0, hp0, ep0⟩ := of_name hnm
  obtain ⟨r, hr1, _, _, _, _, _, _, ok0⟩ := pr_at2 hh.par hp0
  have al : a ≠ l := ne_of hh.at_ hh.lst (fun z => nomatch z)
  refine ⟨_, rfl, a, dx, _, rfl, hh.at_, rfl, _, rfl, rfl, a, dx, l, rs, ps, nm, r, rfl, hh, hnm, hr1, fun H1 e1 hl1 => ?_⟩
  have s1 : Ex G H1 := fun x o hx => e1 x o (ne_of_none hx gl) (s0 x o hx)
  have g1 : Gr (some l) G H G H1 := ⟨Ex.refl G, fun x o hx he => e1 x o (fun z => hx (by rw [z])) he, s1, fun _ _ h => .inl h⟩
  obtain ⟨lt, v1, hlt, l3⟩ := bs_get hts htn
  have twl : tw ≠ l := ne_of htw hh.lst (fun z => nomatch z)
  have bkl : bk ≠ l := ne_of hbk hh.lst (fun z => nomatch z)
  have htw1 := e1 _ _ twl htw
  have hbk1 := e1 _ _ bkl hbk
  have dg : ∀ {H' : Hp}, H' tw = some (.dK kvt) → DGet H' tw (.str nm) (some (.ref lt)) := fun h => by
    rw [← v1]
    exact DGet.k (k := Sum.inr nm) h
  have bnd := sides_in hB htn
  generalize hsd : sidesB ts nm = sd at *
  obtain ⟨x, y, z, rfl⟩ := three_of l3
  have sq : SqL K H1 lt ([x, y, z].map V.int) := sq_of (s1 _ _ hlt)
  have lps : (ps.eraseIdx ((ps.map (·.name)).idxOf nm)).length ≤ 11 := by
    rw [List.length_eraseIdx, if_pos (List.getElem?_eq_some_iff.mp hp0).1]
    have := hh.le
    omega
  refine ⟨_, rfl, a, dx, _, rfl, e1 _ _ al hh.at_, rfl, _, rfl, ?_⟩
  refine ⟨_, rfl, _, rfl, tw, _, rfl, dg htw1, lt, _, 0, _, rfl, rfl, sq, atI_nat (j := 0) rfl, ?_⟩
  refine ⟨_, rfl, _, rfl, tw, _, rfl, dg htw1, lt, _, 1, _, rfl, rfl, sq, atI_nat (j := 1) rfl, ?_⟩
  refine ⟨_, rfl, _, rfl, tw, _, rfl, dg htw1, lt, _, 2, _, rfl, rfl, sq, atI_nat (j := 2) rfl, ?_⟩
  refine mkSides s1 (bnd x (by simp)) (bnd y (by simp)) (bnd z (by simp)) fun xs G7 H7 g7 hxs => ?_
  have ok : PcOk (⟨nm, [x, y, z], 1, 0, 0, marksOf none⟩ : Pcl) := ⟨by rw [← ep0]; exact ok0.name, rfl, bnd, ⟨(by decide : (1 : Int) ≤ 1), (by decide : (1 : Int) ≤ 1000)⟩, ⟨(by decide : (0 : Int) ≤ 0), (by decide : (0 : Int) ≤ 100000)⟩, ⟨(by decide : (0 : Int) ≤ 0), (by decide : (0 : Int) ≤ 100000)⟩, (marks_ok none).1, (marks_ok none).2⟩
  refine mkParcel (as := [.str nm, .ref xs]) (dvs := [.int 1, .int 0, .int 0, .non]) (p := ⟨nm, [x, y, z], 1, 0, 0, marksOf none⟩) (ls := none) (lab := .non) rfl g7.s hxs rfl ok rfl fun xp G9 H9 g9 hxp => ?_
  have e9 := g7.g.trans g9.g
  have eH9 := g7.e.trans g9.e
  have gl9 := g9.out (g7.out gl hl1) (g7.e _ _ hl1)
  have hps9 : PsAt K G9 (rs.eraseIdx ((ps.map (·.name)).idxOf nm)) (ps.eraseIdx ((ps.map (·.name)).idxOf nm)) := PsAt.ex (pr_del _ hps) e9
  have hl9 := eH9 _ _ hl1
  refine ⟨rfl, a, dx, l, _, _, xp, _, rfl, ⟨eH9 _ _ (e1 _ _ al hh.at_), hl9, hps9.ex g9.s, by omega⟩, hxp.ex g9.s, ?_, by omega, fun H10 e10 hl10 => ?_⟩
  · show nm ∉ (ps.eraseIdx ((ps.map (·.name)).idxOf nm)).map (·.name)
    rw [eraseIdx_map']
    have z : (ps.map (·.name))[(ps.map (·.name)).idxOf nm]? = some nm := by
      rw [List.getElem?_map, hp0] <;> exact congrArg some ep0
    have pm := erase_perm z
    exact (List.nodup_cons.mp (pm.nodup_iff.mpr hN)).1
  · have gA : Gr (some l) G H G9 H9 := (g1.step g7 fun x hx => (by cases hx; exact ⟨gl, _, hl1⟩)).step g9 fun x hx => (by cases hx; exact ⟨g7.out gl hl1, _, g7.e _ _ hl1⟩)
    have s10 : Ex G9 H10 := fun x o hx => e10 x o (ne_of_none hx gl9) (g9.s x o hx)
    have gB : Gr (some l) G H G9 H10 := ⟨gA.g, fun x o hx he => e10 x o (fun z => hx (by rw [z])) (gA.h x o hx he), s10, gA.n⟩
    have hbk10 := e10 _ _ bkl (eH9 _ _ hbk1)
    have htw10 := e10 _ _ twl (eH9 _ _ htw1)
    refine ⟨_, rfl, bk, kvb, rfl, .inl hbk10, fun b2 nb2 => ?_⟩
    have b2l : b2 ≠ l := (ne_of_none hl10 nb2).symm
    have b2H : H b2 = none := gB.free nb2 fun x hx => by
      cases hx
      rw [hl10]
      exact fun z => nomatch z
    have b2G : G9 b2 = none := back s10 nb2
    have lk : kvb.length = bs.length := hbs.length
    have pu := DPut.k (H := upd H10 b2 (.dK kvb)) (a := b2) (v := .ref lt) (k := Sum.inr nm) upd_same (sz_lt (by omega))
    unfold putK at pu
    rw [if_pos (bs_has hbs hbn)] at pu
    refine ⟨_, rfl, _, rfl, tw, _, rfl, dg (upk htw10 nb2), _, rfl, _, rfl, b2, _, rfl, pu, _, rfl, ?_⟩
    exact q b2 _ _ _ G9 _ ((gB.mut b2H b2G).mut b2H b2G) gl9 (by rw [upd_ne b2l.symm, upd_ne b2l.symm]; exact hl10) (pr_app hps9 (.cons hxp .nil)) rfl rfl b2H b2G upd_same (bs_put (e9 _ _ hlt) rfl (hbs.ex e9))
end BX
/-! the mathematics: what is told holds every laying -/
namespace BX
open PySem
/-! ### three numbers -/
theorem leM_refl (f : List Int) : leM f f = true := leM_iff.mpr ⟨Int.le_refl _, Int.le_refl _, Int.le_refl _⟩
theorem leM_trans {f g h : List Int} (a : leM f g = true) (b : leM g h = true) : leM f h = true := by
  obtain ⟨a0, a1, a2⟩ := leM_iff.mp a
  obtain ⟨b0, b1, b2⟩ := leM_iff.mp b
  exact leM_iff.mpr ⟨Int.le_trans a0 b0, Int.le_trans a1 b1, Int.le_trans a2 b2⟩
theorem perm3 {a b c : Int} {l : List Int} (h : [a, b, c].Perm l) : ∃ o ∈ ordersM, l = turnM [a, b, c] o := by
  have two : ∀ {a b : Int} {l : List Int}, [a, b].Perm l → l = [a, b] ∨ l = [b, a] := fun {a b l} h => by
    obtain ⟨x, y, rfl⟩ : ∃ x y, l = [x, y] := by
      have := h.length_eq
      match l, this with
      | [x, y], _ => exact ⟨x, y, rfl⟩
    have hx : x ∈ [a, b] := h.symm.subset (List.mem_cons_self ..)
    rcases List.mem_cons.mp hx with e | e
    · subst e
      have z := List.singleton_perm_singleton.mp ((List.perm_cons x).mp h)
      rw [z]
      exact .inl rfl
    · have e := List.mem_singleton.mp e
      subst e
      have z := List.singleton_perm_singleton.mp ((List.perm_cons x).mp ((List.Perm.swap a x []).trans h))
      rw [z]
      exact .inr rfl
  obtain ⟨x, y, z, rfl⟩ := three_of h.length_eq.symm
  have hx : x ∈ [a, b, c] := h.symm.subset (List.mem_cons_self ..)
  simp only [List.mem_cons, List.not_mem_nil, or_false] at hx
  rcases hx with e | e | e
  · subst e
    rcases two ((List.perm_cons x).mp h) with e | e
    · exact ⟨[0, 1, 2], by decide, by rw [e] <;> rfl⟩
    · exact ⟨[0, 2, 1], by decide, by rw [e] <;> rfl⟩
  · subst e
    rcases two ((List.perm_cons x).mp ((List.Perm.swap a x [c]).trans h)) with e | e
    · exact ⟨[1, 0, 2], by decide, by rw [e] <;> rfl⟩
    · exact ⟨[1, 2, 0], by decide, by rw [e] <;> rfl⟩
  · subst e
    have p : [x, a, b].Perm [a, b, x] := (List.Perm.swap a x [b]).trans (List.Perm.cons a (List.Perm.swap b x []))
    rcases two ((List.perm_cons x).mp (p.trans h)) with e | e
    · exact ⟨[2, 0, 1], by decide, by rw [e] <;> rfl⟩
    · exact ⟨[2, 1, 0], by decide, by rw [e] <;> rfl⟩
theorem srt_turn {l : List Int} (h : l.length = 3) : ∃ o ∈ ordersM, srtI true l = turnM l o := by
  obtain ⟨a, b, c, rfl⟩ := three_of h
  exact perm3 (srtI_self _).symm
theorem turn_srt {l : List Int} (h : l.length = 3) : ∃ o ∈ ordersM, l = turnM (srtI true l) o := by
  obtain ⟨a, b, c, e⟩ := three_of (l := srtI true l) (by rw [srtI_len, h])
  have z : [a, b, c].Perm l := by
    rw [← e]
    exact srtI_self l
  rw [e]
  exact perm3 z
theorem orders_perm : ∀ o ∈ ordersM, o.Perm [0, 1, 2] := by decide
theorem turn_perm {l : List Int} (h : l.length = 3) {o : List Nat} (ho : o ∈ ordersM) : (turnM l o).Perm l := by
  obtain ⟨a, b, c, rfl⟩ := three_of h
  exact (orders_perm o ho).map _
theorem srt_of_turn {l : List Int} (h : l.length = 3) {o : List Nat} (ho : o ∈ ordersM) : srtI true (turnM l o) = srtI true l := srtI_perm (turn_perm h ho)
theorem srt_mono {a b : List Int} (ha : a.length = 3) (hb : b.length = 3) (h : leM a b = true) : leM (srtI true a) (srtI true b) = true := by
  obtain ⟨o, ho, ea⟩ := srt_turn ha
  obtain ⟨o', ho', eb⟩ := srt_turn hb
  have da := srtI_down a
  have db := srtI_down b
  rw [ea] at da
  rw [eb] at db
  obtain ⟨a0, a1, a2, rfl⟩ := three_of ha
  obtain ⟨b0, b1, b2, rfl⟩ := three_of hb
  obtain ⟨h0, h1, h2⟩ := leM_iff.mp h
  rw [ea, eb]
  have h0 : a0 ≤ b0 := h0
  have h1 : a1 ≤ b1 := h1
  have h2 : a2 ≤ b2 := h2
  apply leM_iff.mpr
  simp only [ordersM, List.mem_cons, List.not_mem_nil, or_false] at ho ho'
  rcases ho with r | r | r | r | r | r <;> subst r <;> rcases ho' with r | r | r | r | r | r <;> subst r <;>
    (simp [turnM, gN] at da db ⊢; omega)
theorem orders_find : ∀ o1 ∈ ordersM, ∀ o2 ∈ ordersM, ∃ o ∈ ordersM, o1.map (gO o) = o2 := by decide
theorem orders_at : ∀ o ∈ ordersM, ∀ ax, ax < 3 → gO o ax < 3 ∧ o.idxOf (gO o ax) = ax := by decide
/-- turned to lie in -/
theorem fits {x u : List Int} (hx : x.length = 3) (hu : u.length = 3) (h : leM (srtI true x) (srtI true u) = true) : ∃ o ∈ ordersM, leM (turnM x o) u = true := by
  obtain ⟨s, hs, es⟩ := srt_turn hx
  obtain ⟨t, ht, et⟩ := turn_srt hu
  refine ⟨t.map (gO s), orders_mul t ht s hs, ?_⟩
  have e : turnM x (t.map (gO s)) = turnM (srtI true x) t := by
    rw [es, turn_turn fun k hk => by rw [orders_len s hs]; exact orders_lt t ht k hk]
  rw [e, et]
  generalize srtI true u = su at *
  obtain ⟨h0, h1, h2⟩ := leM_iff.mp h
  apply leM_iff.mpr
  simp only [ordersM, List.mem_cons, List.not_mem_nil, or_false] at ht
  rcases ht with r | r | r | r | r | r <;> subst r <;> exact ⟨by assumption, by assumption, by assumption⟩
theorem beside_mono {x y u v : List Int} {ax : Nat} (h1 : leM x u = true) (h2 : leM y v = true) : leM (besideM x y ax) (besideM u v ax) = true := by
  obtain ⟨a0, a1, a2⟩ := leM_iff.mp h1
  obtain ⟨b0, b1, b2⟩ := leM_iff.mp h2
  apply leM_iff.mpr
  have g0 : ∀ f s : List Int, gN (besideM f s ax) 0 = if ax = 0 then gN f 0 + gN s 0 else max (gN f 0) (gN s 0) := fun _ _ => rfl
  have g1 : ∀ f s : List Int, gN (besideM f s ax) 1 = if ax = 1 then gN f 1 + gN s 1 else max (gN f 1) (gN s 1) := fun _ _ => rfl
  have g2 : ∀ f s : List Int, gN (besideM f s ax) 2 = if ax = 2 then gN f 2 + gN s 2 else max (gN f 2) (gN s 2) := fun _ _ => rfl
  rw [g0, g0, g1, g1, g2, g2]
  refine ⟨?_, ?_, ?_⟩ <;> split <;> omega
theorem beside_comm (x y : List Int) (ax : Nat) : besideM x y ax = besideM y x ax := by
  unfold besideM
  rw [Int.add_comm (gN x 0), Int.add_comm (gN x 1), Int.add_comm (gN x 2), Int.max_comm (gN x 0), Int.max_comm (gN x 1), Int.max_comm (gN x 2)]
theorem beside_len (x y : List Int) (ax : Nat) : (besideM x y ax).length = 3 := rfl
/-- what lies in two things lies, laid some way, in the two beside each other -/
theorem key {x y u v : List Int} {ax : Nat} (ha : ax < 3) (hx : x.length = 3) (hy : y.length = 3) (hu : u.length = 3) (hv : v.length = 3) (h1 : leM (srtI true x) (srtI true u) = true) (h2 : leM (srtI true y) (srtI true v) = true) :
    ∃ o ∈ ordersM, ∃ ax', ax' < 3 ∧ leM (srtI true (besideM x (turnM y o) ax')) (srtI true (besideM u v ax)) = true := by
  obtain ⟨o1, k1, e1⟩ := fits hx hu h1
  obtain ⟨o2, k2, e2⟩ := fits hy hv h2
  obtain ⟨o, ko, eo⟩ := orders_find o1 k1 o2 k2
  obtain ⟨a1, a2⟩ := orders_at o1 k1 ax ha
  refine ⟨o, ko, gO o1 ax, a1, ?_⟩
  have z := beside_turn (f := x) (s := turnM y o) k1 a1
  rw [turn_turn (fun k hk => by rw [orders_len o ko]; exact orders_lt o1 k1 k hk), eo, a2] at z
  rw [← srt_of_turn (beside_len _ _ _) k1, ← z]
  exact srt_mono (beside_len _ _ _) (beside_len _ _ _) (beside_mono e1 e2)
/-! ### what is held stays held -/
theorem held_iff {ls : List Ld} {t : List Int} : heldM ls t = true ↔ ∃ x ∈ ls, leM (srtI true x.2) (srtI true t) = true := List.any_eq_true
theorem held_le {ls : List Ld} {t u : List Int} (h : heldM ls t = true) (l : leM (srtI true t) (srtI true u) = true) : heldM ls u = true := by
  obtain ⟨x, hx, e⟩ := held_iff.mp h
  exact held_iff.mpr ⟨x, hx, leM_trans e l⟩
theorem step_keeps {x y : Ld} {ls : List Ld} {w : Way} {t : List Int} (h : heldM ls t = true) : heldM (stepM x y ls w) t = true := by
  unfold stepM
  split
  · exact h
  · obtain ⟨z, hz, e⟩ := held_iff.mp h
    by_cases c : leM (srtI true w.2.2) (srtI true z.2) = true
    · exact held_iff.mpr ⟨_, List.mem_append_right _ (List.mem_singleton.mpr rfl), leM_trans c e⟩
    · exact held_iff.mpr ⟨z, List.mem_append_left _ (List.mem_filter.mpr ⟨hz, by simpa using c⟩), e⟩
theorem step_holds (x y : Ld) (ls : List Ld) (w : Way) : heldM (stepM x y ls w) w.2.2 = true := by
  unfold stepM
  split
  · assumption
  · exact held_iff.mpr ⟨_, List.mem_append_right _ (List.mem_singleton.mpr rfl), leM_refl _⟩
theorem fold_keeps {x y : Ld} {t : List Int} : ∀ {ws : List Way} {ls : List Ld}, heldM ls t = true → heldM (ws.foldl (stepM x y) ls) t = true
  | [], _, h => h
  | w :: ws, ls, h => by
    rw [List.foldl_cons]
    exact fold_keeps (step_keeps h)
theorem fold_holds {x y : Ld} : ∀ {ws : List Way} {ls : List Ld} {w : Way}, w ∈ ws → heldM (ws.foldl (stepM x y) ls) w.2.2 = true
  | v :: ws, ls, w, h => by
    rw [List.foldl_cons]
    rcases List.mem_cons.mp h with e | e
    · rw [e]
      exact fold_keeps (step_holds x y ls v)
    · exact fold_holds e
theorem with_keeps {x y : Ld} {ls : List Ld} {t : List Int} (h : heldM ls t = true) : heldM (withM ls x y) t = true := fold_keeps h
theorem with_holds {x y : Ld} {ls : List Ld} {o : List Nat} {ax : Nat} (ho : o ∈ ordersM) (ha : ax < 3) : heldM (withM ls x y) (besideM x.2 (turnM y.2 o) ax) = true := by
  have z := fold_holds (x := x) (y := y) (ls := ls) (mem_ways (f := x.2) (s := y.2) ho ha)
  unfold withM
  exact z
theorem inner_keeps {x : Ld} {t : List Int} : ∀ {ys acc : List Ld}, heldM acc t = true → heldM (innerM x ys acc) t = true
  | [], _, h => h
  | y :: ys, acc, h => by
    rw [innerM_cons]
    exact inner_keeps (with_keeps h)
theorem inner_holds {x : Ld} {o : List Nat} {ax : Nat} (ho : o ∈ ordersM) (ha : ax < 3) : ∀ {ys acc : List Ld} {y : Ld}, y ∈ ys → heldM (innerM x ys acc) (besideM x.2 (turnM y.2 o) ax) = true
  | v :: ys, acc, y, h => by
    rw [innerM_cons]
    rcases List.mem_cons.mp h with e | e
    · rw [e]
      exact inner_keeps (with_holds ho ha)
    · exact inner_holds ho ha e
theorem pair_keeps {t : List Int} : ∀ {xs ys acc : List Ld}, heldM acc t = true → heldM (pairM xs ys acc) t = true
  | [], _, _, h => h
  | x :: xs, ys, acc, h => by
    rw [pairM_cons]
    exact pair_keeps (inner_keeps h)
theorem pair_holds {o : List Nat} {ax : Nat} (ho : o ∈ ordersM) (ha : ax < 3) : ∀ {xs ys acc : List Ld} {x y : Ld}, x ∈ xs → y ∈ ys → heldM (pairM xs ys acc) (besideM x.2 (turnM y.2 o) ax) = true
  | v :: xs, ys, acc, x, y, hx, hy => by
    rw [pairM_cons]
    rcases List.mem_cons.mp hx with e | e
    · rw [e]
      exact pair_keeps (inner_holds ho ha hy)
    · exact pair_holds ho ha e hy
theorem foldP_keeps {tbl : Tb} {t : List Int} : ∀ {ps : List (List Str × List Str)} {acc : List Ld}, heldM acc t = true → heldM (foldP tbl ps acc) t = true
  | [], _, h => h
  | p :: ps, acc, h => by
    rw [foldP_cons]
    exact foldP_keeps (pair_keeps h)
theorem foldP_holds {tbl : Tb} {o : List Nat} {ax : Nat} (ho : o ∈ ordersM) (ha : ax < 3) : ∀ {ps : List (List Str × List Str)} {acc : List Ld} {pr : List Str × List Str} {x y : Ld}, pr ∈ ps → x ∈ getM tbl pr.1 → y ∈ getM tbl pr.2 → heldM (foldP tbl ps acc) (besideM x.2 (turnM y.2 o) ax) = true
  | p :: ps, acc, pr, x, y, h, hx, hy => by
    rw [foldP_cons]
    rcases List.mem_cons.mp h with e | e
    · rw [← e]
      exact foldP_keeps (pair_holds ho ha hx hy)
    · exact foldP_holds ho ha e hx hy
/-! ### none is held by another one -/
def Apart (a b : Ld) : Prop := leM (srtI true a.2) (srtI true b.2) = false ∧ leM (srtI true b.2) (srtI true a.2) = false
abbrev AntiM (ls : List Ld) : Prop := ls.Pairwise Apart
theorem step_anti {x y : Ld} {ls : List Ld} (w : Way) (h : AntiM ls) : AntiM (stepM x y ls w) := by
  unfold stepM
  split
  · exact h
  · rename_i hn
    refine List.pairwise_append.mpr ⟨h.sublist List.filter_sublist, List.pairwise_singleton .., fun a ha b hb => ?_⟩
    rw [List.mem_singleton.mp hb]
    obtain ⟨h1, h2⟩ := List.mem_filter.mp ha
    refine ⟨?_, by simpa using h2⟩
    rw [← Bool.not_eq_true]
    exact fun z => hn (held_iff.mpr ⟨a, h1, z⟩)
theorem fold_anti {x y : Ld} : ∀ {ws : List Way} {ls : List Ld}, AntiM ls → AntiM (ws.foldl (stepM x y) ls)
  | [], _, h => h
  | w :: ws, ls, h => by
    rw [List.foldl_cons]
    exact fold_anti (step_anti w h)
theorem inner_anti {x : Ld} : ∀ {ys acc : List Ld}, AntiM acc → AntiM (innerM x ys acc)
  | [], _, h => h
  | y :: ys, acc, h => by
    rw [innerM_cons]
    exact inner_anti (fold_anti h)
theorem pair_anti : ∀ {xs ys acc : List Ld}, AntiM acc → AntiM (pairM xs ys acc)
  | [], _, _, h => h
  | x :: xs, ys, acc, h => by
    rw [pairM_cons]
    exact pair_anti (inner_anti h)
theorem foldP_anti {tbl : Tb} : ∀ {ps : List (List Str × List Str)} {acc : List Ld}, AntiM acc → AntiM (foldP tbl ps acc)
  | [], _, h => h
  | p :: ps, acc, h => by
    rw [foldP_cons]
    exact foldP_anti (pair_anti h)
theorem first_anti (sides : Str → List Int) (c : List Str) : AntiM (firstM sides c) := by
  unfold firstM
  split
  · exact List.pairwise_singleton ..
  · exact .nil
/-! ### the table -/
theorem foldP_congr {t1 t2 : Tb} : ∀ {ps : List (List Str × List Str)} {acc : List Ld}, (∀ pr ∈ ps, getM t1 pr.1 = getM t2 pr.1 ∧ getM t1 pr.2 = getM t2 pr.2) → foldP t1 ps acc = foldP t2 ps acc
  | [], _, _ => rfl
  | p :: ps, acc, h => by
    obtain ⟨e1, e2⟩ := h p (List.mem_cons_self ..)
    rw [foldP_cons, foldP_cons, e1, e2]
    exact foldP_congr fun q hq => h q (List.mem_cons_of_mem _ hq)
theorem getM_app {t1 t2 : Tb} {c : List Str} (h : c ∈ t1.map (·.1)) : getM (t1 ++ t2) c = getM t1 c := by
  unfold getM
  rw [List.find?_append]
  cases e : t1.find? fun p => decide (p.1 = c) with
  | some p => rfl
  | none =>
    obtain ⟨p, hp, e2⟩ := List.mem_map.mp h
    have z := List.find?_eq_none.mp e p hp
    simp [e2] at z
theorem listsU_app (sides : Str → List Int) (cs : List (List Str)) : ∀ ds : List (List Str), ∃ r, listsU sides (cs ++ ds) = listsU sides cs ++ r := by
  have key : ∀ (n : Nat) (ds : List (List Str)), ds.length = n → ∃ r, listsU sides (cs ++ ds) = listsU sides cs ++ r := by
    intro n
    induction n with
    | zero =>
      intro ds h
      rw [List.length_eq_zero_iff.mp h]
      exact ⟨[], by rw [List.append_nil, List.append_nil]⟩
    | succ n ih =>
      intro ds h
      have ne : ds ≠ [] := fun e => by
        rw [e] at h
        cases h
      obtain ⟨r, hr⟩ := ih ds.dropLast (by rw [List.length_dropLast, h] <;> rfl)
      refine ⟨r ++ [(ds.getLast ne, listM sides (listsU sides (cs ++ ds.dropLast)) (ds.getLast ne))], ?_⟩
      rw [← List.append_assoc, ← hr, ← listsU_snoc, List.append_assoc, List.dropLast_concat_getLast]
  exact fun ds => key _ ds rfl
theorem table_get {sides : Str → List Int} {ns c : List Str} (hn : ns.Nodup) (hc : c ∈ choicesM ns) : getM (listsM sides ns) c = listM sides (listsM sides ns) c := by
  obtain ⟨i, hi, e⟩ := List.mem_iff_getElem.mp hc
  have hi2 : (choicesM ns)[i]? = some c := by rw [List.getElem?_eq_getElem hi, e]
  have split : choicesM ns = (choicesM ns).take i ++ ([c] ++ (choicesM ns).drop (i + 1)) := by
    have z := List.take_append_drop i (choicesM ns)
    rw [List.drop_eq_getElem_cons hi, e] at z
    exact z.symm
  obtain ⟨r0, h0⟩ := listsU_app sides ((choicesM ns).take i) ([c] ++ (choicesM ns).drop (i + 1))
  obtain ⟨r1, h1⟩ := listsU_app sides ((choicesM ns).take i ++ [c]) ((choicesM ns).drop (i + 1))
  rw [List.append_assoc, ← split] at h1
  rw [← split] at h0
  have k0 := listsU_keys sides ((choicesM ns).take i)
  have nb := not_before (choices_nodup hn) hi2
  have g1 : getM (listsM sides ns) c = listM sides (listsU sides ((choicesM ns).take i)) c := by
    unfold listsM
    rw [h1, getM_app (by rw [listsU_keys]; exact List.mem_append_right _ (List.mem_singleton.mpr rfl)), listsU_snoc]
    rcases getM_snoc (listsU sides ((choicesM ns).take i)) c c (listM sides (listsU sides ((choicesM ns).take i)) c) with z | ⟨z, _⟩
    · have e0 : getM (listsU sides ((choicesM ns).take i) ++ [(c, listM sides (listsU sides ((choicesM ns).take i)) c)]) c = listM sides (listsU sides ((choicesM ns).take i)) c := by
        unfold getM
        rw [List.find?_append]
        have e1 : (listsU sides ((choicesM ns).take i)).find? (fun p => decide (p.1 = c)) = none := List.find?_eq_none.mpr fun p hp z => nb (by
          rw [← k0, ← of_decide_eq_true z]
          exact List.mem_map_of_mem hp)
        rw [e1]
        simp
      exact e0
    · exact z
  rw [g1]
  unfold listM
  refine foldP_congr fun pr hpr => ?_
  obtain ⟨p1, p2⟩ := part_before hn hi2 (p := pr.1) (r := pr.2) hpr
  unfold listsM
  rw [h0]
  exact ⟨(getM_app (by rw [k0]; exact p1)).symm, (getM_app (by rw [k0]; exact p2)).symm⟩
theorem papN_pos : ∀ p : Pap, 1 ≤ (papN p).length
  | .one _ _ => Nat.le_refl _
  | .by _ a b => by
    show 1 ≤ (papN a ++ papN b).length
    rw [List.length_append]
    have := papN_pos a
    omega
theorem parting_mem {n : Str} {c m : List Str} (h : m.Sublist c) (l : m.length < c.length) : (n :: m, (n :: c).filter fun x => decide (x ∉ n :: m)) ∈ partingsM (n :: c) :=
  List.mem_flatMap.mpr ⟨m.length, List.mem_range.mpr (by rw [List.length_cons]; omega), List.mem_map.mpr ⟨m, mem_chosenM h, rfl⟩⟩
section
variable {sides : Str → List Int} {ns : List Str} (hn : ns.Nodup) (hs : ∀ n ∈ ns, (sides n).length = 3)
include hn hs
theorem table_ok : TbOk sides (listsM sides ns) := listsU_ok _ _ rfl fun c hc => by
  have h1 := (mem_choices.mp hc).1
  exact ⟨h1.nodup hn, fun n hm => hs n (h1.subset hm)⟩
theorem pair_cover {c : List Str} (hc : c ∈ choicesM ns) {a b : Pap} {ax : Nat} (ha : ax < 3) (ka : papOk a) (kb : papOk b) (hp : (papN a ++ papN b).Perm c) {n : Str} {c' : List Str} (ec : c = n :: c') (hna : n ∈ papN a)
    (ia : ∀ d ∈ choicesM ns, (papN a).Perm d → heldM (getM (listsM sides ns) d) (spanM sides a) = true) (ib : ∀ d ∈ choicesM ns, (papN b).Perm d → heldM (getM (listsM sides ns) d) (spanM sides b) = true) :
    heldM (getM (listsM sides ns) c) (besideM (spanM sides a) (spanM sides b) ax) = true := by
  have cs := mem_choices.mp hc
  have cn := cs.1.nodup hn
  have an : (papN a ++ papN b).Nodup := hp.nodup_iff.mpr cn
  obtain ⟨an1, an2, an3⟩ := List.nodup_append.mp an
  have pa : (papN a).Perm (c.filter fun x => decide (x ∈ papN a)) := by
    have z := hp.filter (fun x => decide (x ∈ papN a))
    rw [List.filter_append, List.filter_eq_self.mpr (fun x hx => by simpa using hx), List.filter_eq_nil_iff.mpr (fun x hx z => an3 x (by simpa using z) x hx rfl), List.append_nil] at z
    exact z
  have pb : (papN b).Perm (c.filter fun x => decide (x ∉ papN a)) := by
    have z := hp.filter (fun x => decide (x ∉ papN a))
    rw [List.filter_append, List.filter_eq_nil_iff.mpr (fun x hx => by simpa using hx), List.filter_eq_self.mpr (fun x hx => by simpa using fun z => an3 x z x hx rfl), List.nil_append] at z
    exact z
  have ep : (c.filter fun x => decide (x ∈ papN a)) = n :: c'.filter fun x => decide (x ∈ papN a) := by
    rw [ec, List.filter_cons_of_pos (by simpa using hna)]
  have er : (c.filter fun x => decide (x ∉ n :: c'.filter fun x => decide (x ∈ papN a))) = c.filter fun x => decide (x ∉ papN a) := by
    apply List.filter_congr
    intro x hx
    rw [← ep]
    simp [hx]
  have lp := pa.length_eq
  have lr := pb.length_eq
  have lc := hp.length_eq
  rw [List.length_append] at lc
  have b1 := papN_pos b
  have hm := parting_mem (n := n) (c := c') (m := c'.filter fun x => decide (x ∈ papN a)) List.filter_sublist (by
    rw [ep, List.length_cons] at lp
    rw [ec, List.length_cons] at lc
    omega)
  rw [← ec, er] at hm
  have k := part_ok cn hm
  have p1 := choice_sub hc k.sp k.p1
  have r1 := choice_sub hc k.sr k.r1
  have z1 := ia _ p1 (by rw [← ep]; exact pa)
  have z2 := ib _ r1 pb
  obtain ⟨x, hx, ex⟩ := held_iff.mp z1
  obtain ⟨y, hy, ey⟩ := held_iff.mp z2
  have ok := table_ok hn hs
  obtain ⟨o, ho, ax', ha', e⟩ := key ha (ok _ x hx).len (ok _ y hy).len (span_len ka) (span_len kb) ex ey
  rw [table_get hn hc]
  exact held_le (foldP_holds ho ha' hm hx hy) e
/-- any well made laying of the choice is held -/
theorem cover : ∀ p : Pap, papOk p → ∀ c ∈ choicesM ns, (papN p).Perm c → heldM (getM (listsM sides ns) c) (spanM sides p) = true
  | .one n o, hk, c, hc, hp => by
    have e : c = [n] := (List.singleton_perm.mp hp).symm
    subst e
    have hl := hs n ((mem_choices.mp hc).1.subset (List.mem_singleton.mpr rfl))
    rw [table_get hn hc]
    refine foldP_keeps (held_iff.mpr ⟨(.one n [0, 1, 2], sides n), List.mem_singleton.mpr rfl, ?_⟩)
    show leM (srtI true (sides n)) (srtI true (turnM (sides n) o)) = true
    rw [srt_of_turn hl hk]
    exact leM_refl _
  | .by ax a b, ⟨h1, h2, h3⟩, c, hc, hp => by
    have hp : (papN a ++ papN b).Perm c := hp
    show heldM _ (besideM (spanM sides a) (spanM sides b) ax) = true
    match ec : c with
    | [] => exact absurd rfl (mem_choices.mp hc).2
    | n :: c' =>
      have hm : n ∈ papN a ++ papN b := hp.symm.subset (List.mem_cons_self ..)
      rcases List.mem_append.mp hm with z | z
      · exact pair_cover hn hs hc h1 h2 h3 hp rfl z (cover a h2) (cover b h3)
      · rw [beside_comm]
        exact pair_cover hn hs hc h1 h3 h2 (List.perm_append_comm.trans hp) rfl z (cover b h3) (cover a h2)
theorem exists_pap : ∀ c : List Str, c ≠ [] → ∃ p, papOk p ∧ papN p = c
  | [], h => absurd rfl h
  | [n], _ => ⟨.one n [0, 1, 2], by show [0, 1, 2] ∈ ordersM; decide, rfl⟩
  | n :: m :: c, _ => by
    obtain ⟨p, h1, h2⟩ := exists_pap (m :: c) (by simp)
    refine ⟨.by 0 (.one n [0, 1, 2]) p, ⟨by decide, (by show [0, 1, 2] ∈ ordersM; decide), h1⟩, ?_⟩
    show [n] ++ papN p = _
    rw [h2] <;> rfl
theorem table_some {c : List Str} (hc : c ∈ choicesM ns) : getM (listsM sides ns) c ≠ [] := by
  obtain ⟨p, h1, h2⟩ := exists_pap hn hs c (mem_choices.mp hc).2
  obtain ⟨x, hx, _⟩ := held_iff.mp (cover hn hs p h1 c hc (by rw [h2]))
  exact List.ne_nil_of_mem hx
theorem table_anti {c : List Str} (hc : c ∈ choicesM ns) : AntiM (getM (listsM sides ns) c) := by
  rw [table_get hn hc]
  exact foldP_anti (first_anti sides c)
end
theorem getP_papT (c : List Str) : ∀ tbl : Tb, getP (papT tbl) c = (getM tbl c).map (·.1)
  | [] => rfl
  | (d, l) :: tbl => by
    have e : papT ((d, l) :: tbl) = (d, l.map (·.1)) :: papT tbl := rfl
    rw [e, getP_cons, getM_cons, getP_papT c tbl]
    split <;> rfl
theorem papT_keys (tbl : Tb) : (papT tbl).map (·.1) = tbl.map (·.1) := by
  unfold papT
  rw [List.map_map] <;> rfl
section
variable {sides : Str → List Int} {ns : List Str} (hn : ns.Nodup) (hs : ∀ n ∈ ns, (sides n).length = 3)
include hn hs
theorem spans_get {c : List Str} : getS (spansM sides (papT (listsM sides ns))) c = (getM (listsM sides ns) c).map (·.2) := by
  rw [getS_spans, getP_papT, List.map_map]
  apply List.map_congr_left
  intro x hx
  exact ((table_ok hn hs c x hx).span).symm
theorem right_ok {c : List Str} (hc : c ∈ choicesM ns) : ListOk (spansM sides (papT (listsM sides ns))) c := by
  have sg := fun d => spans_get hn hs (c := d)
  refine ⟨fun k s hk => ?_, fun pr hpr x hx y hy o ho ax ha => ?_⟩
  · have an := table_anti hn hs hc
    rw [sg c] at hk ⊢
    rw [← Bool.not_eq_true]
    intro z
    obtain ⟨t, ht, e⟩ := List.any_eq_true.mp z
    rw [List.map_map] at ht
    rw [List.getElem?_map] at hk
    obtain ⟨x, hx, rfl⟩ := Option.map_eq_some_iff.mp hk
    obtain ⟨hk1, ex⟩ := List.getElem?_eq_some_iff.mp hx
    have pw := List.pairwise_iff_getElem.mp an
    rcases List.mem_append.mp ht with ht | ht
    · obtain ⟨j, hj, ej⟩ := List.mem_iff_getElem.mp ht
      rw [List.length_take, List.length_map] at hj
      rw [List.getElem_take, List.getElem_map] at ej
      have q := (pw j k (by omega) hk1 (by omega)).1
      rw [ex] at q
      rw [← ej] at e
      exact absurd (q.symm.trans e) (by decide)
    · obtain ⟨j, hj, ej⟩ := List.mem_iff_getElem.mp ht
      rw [List.length_drop, List.length_map] at hj
      rw [List.getElem_drop, List.getElem_map] at ej
      have q := (pw k (k + 1 + j) hk1 (by omega) (by omega)).2
      rw [ex] at q
      rw [← ej] at e
      exact absurd (q.symm.trans e) (by decide)
  · rw [sg] at hx hy ⊢
    obtain ⟨a, ha', rfl⟩ := List.mem_map.mp hx
    obtain ⟨b, hb', rfl⟩ := List.mem_map.mp hy
    rw [table_get hn hc]
    obtain ⟨z, hz, e⟩ := held_iff.mp (foldP_holds ho ha hpr ha' hb' (acc := firstM sides c))
    exact List.any_eq_true.mpr ⟨_, List.mem_map.mpr ⟨z.2, List.mem_map.mpr ⟨z, hz, rfl⟩, rfl⟩, e⟩
/-- the law finds it right -/
theorem shown_of (h4 : ns.length ≤ 4) : Shown sides ns (papT (listsM sides ns)) := by
  refine ⟨?_, fun c hc => ?_, fun c hc => ?_, fun c hc p hp => ?_, fun c hc => right_ok hn hs hc⟩
  · rw [papT_keys]
    exact listsU_keys _ _
  · rw [getP_papT]
    exact fun z => table_some hn hs hc (List.map_eq_nil_iff.mp z)
  · rw [getP_papT, List.length_map]
    have z1 := (lists_ok hn h4 sides).2.1 c
    have z2 := bnd_le c.length
    omega
  · rw [getP_papT] at hp
    obtain ⟨x, hx, rfl⟩ := List.mem_map.mp hp
    have k := table_ok hn hs c x hx
    exact ⟨k.ok, k.dep, k.names⟩
/-- any laying is held -/
theorem drawn_held {c : List Str} (hc : c ∈ choicesM ns) {p : Pap} (hk : papOk p) (hp : (papN p).Perm c) : lheldM (srtI true (spanM sides p)) ((getP (papT (listsM sides ns)) c).map fun p => srtI true (spanM sides p)) = true := by
  obtain ⟨x, hx, e⟩ := held_iff.mp (cover hn hs p hk c hc hp)
  rw [getP_papT, List.map_map]
  refine List.any_eq_true.mpr ⟨_, List.mem_map.mpr ⟨x, hx, rfl⟩, ?_⟩
  show leM (srtI true (spanM sides x.1)) _ = true
  rw [← (table_ok hn hs c x hx).span]
  exact e
end
/-! ### the sides by a heap and by a book -/
theorem sides_eq : ∀ {ps : List Pcl} {bs : Bk}, ps.map (·.name) = bs.map (·.1) → ps.map (·.three) = bs.map (·.2) → ∀ n, sidesOf ps n = sidesB bs n
  | [], [], _, _, n => rfl
  | [], _ :: _, h, _, _ => by cases h
  | _ :: _, [], h, _, _ => by cases h
  | p :: ps, b :: bs, h1, h2, n => by
    rw [List.map_cons, List.map_cons] at h1 h2
    obtain ⟨e1, t1⟩ := List.cons.inj h1
    obtain ⟨e2, t2⟩ := List.cons.inj h2
    have ih := sides_eq t1 t2 n
    by_cases e : b.1 = n
    · have s : sidesB (b :: bs) n = b.2 := by
        unfold sidesB
        rw [List.find?_cons_of_pos (by simpa using e)] <;> rfl
      rw [s]
      unfold sidesOf
      rw [List.map_cons, e1, e, List.idxOf_cons_self]
      exact e2
    · have s : sidesB (b :: bs) n = sidesB bs n := by
        unfold sidesB
        rw [List.find?_cons_of_neg (by simpa using e)]
      rw [s, ← ih]
      unfold sidesOf
      rw [List.map_cons, e1, List.idxOf_cons, show (b.1 == n) = false by simpa using e] <;> rfl
end BX
/-! the mathematics: data alike, texts that can be laid, how long what is told shows -/
namespace BX
open PySem
theorem strOk_iff {x : Str} : PyData.strOk x = true ↔ ∀ c ∈ x.cps.toList, c < 0x110000 := by
  unfold PyData.strOk
  rw [← Array.all_toList, List.all_eq_true]
  simp
theorem strOk_app {a b : Str} (ha : PyData.strOk a = true) (hb : PyData.strOk b = true) : PyData.strOk (a ++ b) = true := by
  rw [strOk_iff] at *
  intro c hc
  rw [Str.cps_append, Array.toList_append] at hc
  rcases List.mem_append.mp hc with h | h
  · exact ha c h
  · exact hb c h
theorem strOk_join {s : Str} (hs : PyData.strOk s = true) : ∀ l : List Str, (∀ x ∈ l, PyData.strOk x = true) → PyData.strOk (Str.join s l) = true
  | [], _ => (by decide +kernel : PyData.strOk Str.empty = true)
  | [x], h => h x (List.mem_cons_self ..)
  | x :: y :: r, h => by
    show PyData.strOk (x ++ s ++ Str.join s (y :: r)) = true
    exact strOk_app (strOk_app (h x (List.mem_cons_self ..)) hs) (strOk_join hs (y :: r) fun z hz => h z (List.mem_cons_of_mem _ hz))
theorem strOk_num (i : Int) : PyData.strOk (Str.ofString (toString i)) = true := strOk_iff.mpr fun c hc => Nat.lt_of_lt_of_le (PySem.W.KSb.asc_num i c hc) (by decide)
theorem strOk_name {z : Str} (h : IsName z) : PyData.strOk z = true := strOk_iff.mpr fun c hc => by
  have k : ∀ c ∈ lettersS.cps.toList, c < 0x110000 := by decide +kernel
  exact k c (h.2.2 c hc)
theorem strP_ok {p : Pcl} (ok : PcOk p) : PyData.strOk (strP p) = true := by
  unfold strP
  rw [TL.join_eq]
  refine strOk_join (by decide +kernel) _ fun x hx => ?_
  rcases List.mem_append.mp hx with hx | hx
  · simp only [wordsP, List.mem_cons, List.not_mem_nil, or_false] at hx
    rcases hx with r | r | r | r | r | r
    · rw [r]
      decide +kernel
    · rw [r]
      exact strOk_name ok.name
    · rw [r]
      unfold strS
      rw [TL.join_eq]
      refine strOk_join (by decide +kernel) _ fun y hy => ?_
      obtain ⟨i, _, rfl⟩ := List.mem_map.mp hy
      exact strOk_num i
    · rw [r]
      exact strOk_num _
    · rw [r]
      exact strOk_num _
    · rw [r]
      exact strOk_num _
  · have k : ∀ x ∈ labelsL, PyData.strOk x = true := by decide +kernel
    exact k x (ok.marks x hx)
/-! ### lists of tuples of texts -/
abbrev tupD (c : List Str) : PyData := .tuple (c.map PyData.str)
theorem eqvs_tups : ∀ cs : List (List Str), PyData.eqvAll (cs.map tupD) (cs.map tupD) = true
  | [] => by simp [PyData.eqvAll]
  | c :: cs => by
    rw [List.map_cons]
    simp only [PyData.eqvAll, Bool.and_eq_true]
    exact ⟨by simp only [PyData.eqv]; exact eqvs_strs c, eqvs_tups cs⟩
theorem eqv_tups (cs : List (List Str)) : PyData.eqv (.list (cs.map tupD)) (.list (cs.map tupD)) = true := by
  simp only [PyData.eqv]
  exact eqvs_tups cs
theorem lay_strs : ∀ l : List Str, (∀ x ∈ l, PyData.strOk x = true) → PyData.canLayAll0 (l.map PyData.str) = true
  | [], _ => by simp [PyData.canLayAll0]
  | a :: l, h => by
    rw [List.map_cons]
    simp only [PyData.canLayAll0, PyData.canLay0, Bool.and_eq_true]
    exact ⟨h a (List.mem_cons_self ..), lay_strs l fun x hx => h x (List.mem_cons_of_mem _ hx)⟩
theorem dep_strs : ∀ l : List Str, PyData.depthAll (l.map PyData.str) = 0
  | [] => by simp [PyData.depthAll]
  | a :: l => by
    rw [List.map_cons]
    simp only [PyData.depthAll, PyData.depth, dep_strs l]
    rfl
theorem lay_tups : ∀ cs : List (List Str), (∀ c ∈ cs, ∀ x ∈ c, PyData.strOk x = true) → PyData.canLayAll0 (cs.map tupD) = true
  | [], _ => by simp [PyData.canLayAll0]
  | c :: cs, h => by
    rw [List.map_cons]
    simp only [PyData.canLayAll0, PyData.canLay0, Bool.and_eq_true]
    exact ⟨lay_strs c (h c (List.mem_cons_self ..)), lay_tups cs fun x hx => h x (List.mem_cons_of_mem _ hx)⟩
theorem dep_tups : ∀ cs : List (List Str), PyData.depthAll (cs.map tupD) ≤ 1
  | [] => by simp [PyData.depthAll]
  | c :: cs => by
    rw [List.map_cons]
    simp only [PyData.depthAll, PyData.depth, dep_strs c]
    have := dep_tups cs
    omega
theorem shaped_tups {cs : List (List Str)} (h : ∀ c ∈ cs, ∀ x ∈ c, PyData.strOk x = true) : PySem.SeqAt.shaped (.list (cs.map tupD)) = true := by
  unfold PySem.SeqAt.shaped
  rw [Bool.and_eq_true]
  refine ⟨by simp only [PyData.canLay0]; exact lay_tups cs h, decide_eq_true ?_⟩
  simp only [PyData.depth]
  have := dep_tups cs
  omega
/-! ### how long what is told shows -/
theorem int3 {k : Nat} (h : k < 3) : PyData.showable (.int (k : Nat)) = true ∧ PyData.leavesShort 8 (.int (k : Nat)) = true ∧ PyData.weight (.int (k : Nat)) ≤ 2 := by
  rcases (show k = 0 ∨ k = 1 ∨ k = 2 by omega) with r | r | r <;> subst r <;> decide +kernel
theorem ord_facts {o : List Nat} (h : o ∈ ordersM) : (ordD o).hasDict = false ∧ (ordD o).showable = true ∧ (ordD o).depth = 1 ∧ (ordD o).leavesShort 8 = true ∧ (ordD o).weight ≤ 9 := by
  revert o
  decide +kernel
structure PapS (p : Pap) : Prop where
  hd : (papD p).hasDict = false
  sh : (papD p).showable = true
  dp : (papD p).depth ≤ papDep p + 1
  lv : (papD p).leavesShort 8 = true
  wt : (papD p).weight + 8 ≤ 31 * (papN p).length
theorem leaf_name {n : Str} (h : IsName n) : PyData.leavesShort 8 (.str n) = true := by
  simp only [PyData.leavesShort, List.all_eq_true, decide_eq_true_eq]
  intro c hc
  exact Nat.lt_of_lt_of_le (strOk_iff.mp (strOk_name h) c hc) (by decide)
theorem pap_s : ∀ p : Pap, papOk p → (∀ n ∈ papN p, IsName n) → PapS p
  | .one n o, h, hn => by
    obtain ⟨o1, o2, o3, o4, o5⟩ := ord_facts h
    have nm := hn n (List.mem_singleton.mpr rfl)
    have w1 : PyData.weight (.str n) ≤ 8 := nm.2.1
    have w0 : PyData.weight (.str "one") = 3 := by decide +kernel
    have l0 : PyData.leavesShort 8 (.str "one") = true := by decide +kernel
    have len : (papN (.one n o)).length = 1 := rfl
    refine ⟨?_, ?_, ?_, ?_, ?_⟩
    · simp only [papD, PyData.hasDict, PyData.hasDictAll, o1]
      rfl
    · simp only [papD, PyData.showable, PyData.showableAll, o2]
      rfl
    · simp only [papD, PyData.depth, PyData.depthAll, o3, papDep]
      decide
    · simp only [papD, PyData.leavesShort, PyData.leavesShortAll] at l0 ⊢
      rw [o4]
      have l1 := leaf_name nm
      simp only [PyData.leavesShort] at l1
      rw [l0, l1]
      rfl
    · have e : PyData.weight (papD (.one n o)) = PyData.weight (.str "one") + 1 + (PyData.weight (.str n) + 1 + (PyData.weight (ordD o) + 1 + 0)) := by simp only [papD, PyData.weight, PyData.weightAll]
      rw [e, len]
      omega
  | .by ax a b, ⟨h1, h2, h3⟩, hn => by
    have ia := pap_s a h2 fun n hm => hn n (List.mem_append_left _ hm)
    have ib := pap_s b h3 fun n hm => hn n (List.mem_append_right _ hm)
    obtain ⟨i1, i2, i3⟩ := int3 h1
    have w0 : PyData.weight (.str "by") = 2 := by decide +kernel
    have l0 : PyData.leavesShort 8 (.str "by") = true := by decide +kernel
    have len : (papN (.by ax a b)).length = (papN a).length + (papN b).length := List.length_append
    refine ⟨?_, ?_, ?_, ?_, ?_⟩
    · simp only [papD, PyData.hasDict, PyData.hasDictAll, ia.hd, ib.hd]
      rfl
    · have e : PyData.showable (papD (.by ax a b)) = (true && (PyData.showable (.int (ax : Nat)) && (PyData.showable (papD a) && (PyData.showable (papD b) && true)))) := by simp only [papD, PyData.showable, PyData.showableAll]
      rw [e, i1, ia.sh, ib.sh]
      rfl
    · have e : PyData.depth (papD (.by ax a b)) = max 0 (max 0 (max (PyData.depth (papD a)) (max (PyData.depth (papD b)) 0))) + 1 := by simp only [papD, PyData.depth, PyData.depthAll]
      have e2 : papDep (.by ax a b) = max (papDep a) (papDep b) + 1 := rfl
      rw [e, e2]
      have := ia.dp
      have := ib.dp
      omega
    · have e : PyData.leavesShort 8 (papD (.by ax a b)) = (PyData.leavesShort 8 (.str "by") && (PyData.leavesShort 8 (.int (ax : Nat)) && (PyData.leavesShort 8 (papD a) && (PyData.leavesShort 8 (papD b) && true)))) := by simp only [papD, PyData.leavesShort, PyData.leavesShortAll]
      rw [e, l0, i2, ia.lv, ib.lv]
      rfl
    · have e : PyData.weight (papD (.by ax a b)) = PyData.weight (.str "by") + 1 + (PyData.weight (.int (ax : Nat)) + 1 + (PyData.weight (papD a) + 1 + (PyData.weight (papD b) + 1 + 0))) := by simp only [papD, PyData.weight, PyData.weightAll]
      rw [e, len]
      have := ia.wt
      have := ib.wt
      omega
structure AllS (B D : Nat) (ds : List PyData) : Prop where
  hd : PyData.hasDictAll ds = false
  sh : PyData.showableAll ds = true
  dp : PyData.depthAll ds ≤ D
  lv : PyData.leavesShortAll 8 ds = true
  wt : PyData.weightAll ds ≤ B * ds.length
theorem alls {B D : Nat} : ∀ ds : List PyData, (∀ d ∈ ds, d.hasDict = false ∧ d.showable = true ∧ d.depth ≤ D ∧ d.leavesShort 8 = true ∧ d.weight + 1 ≤ B) → AllS B D ds
  | [], _ => ⟨rfl, rfl, Nat.zero_le _, rfl, Nat.zero_le _⟩
  | d :: ds, h => by
    obtain ⟨h1, h2, h3, h4, h5⟩ := h d (List.mem_cons_self ..)
    have t := alls (B := B) (D := D) ds fun x hx => h x (List.mem_cons_of_mem _ hx)
    refine ⟨?_, ?_, ?_, ?_, ?_⟩
    · simp only [PyData.hasDictAll, h1, t.hd] <;> rfl
    · simp only [PyData.showableAll, h2, t.sh] <;> rfl
    · simp only [PyData.depthAll]
      have := t.dp
      omega
    · simp only [PyData.leavesShortAll, h4, t.lv] <;> rfl
    · simp only [PyData.weightAll, List.length_cons, Nat.mul_succ]
      have := t.wt
      omega
abbrev listD (ps : List Pap) : PyData := .list (ps.map papD)
theorem list_s {ps : List Pap} (h : ∀ p ∈ ps, papOk p ∧ (∀ n ∈ papN p, IsName n) ∧ papDep p ≤ 3 ∧ (papN p).length ≤ 3) (hl : ps.length ≤ 1027) : (listD ps).hasDict = false ∧ (listD ps).showable = true ∧ (listD ps).depth ≤ 5 ∧ (listD ps).leavesShort 8 = true ∧ (listD ps).weight ≤ 94 * 1027 := by
  have z : AllS 94 4 (ps.map papD) := alls _ fun d hd => by
    obtain ⟨p, hp, rfl⟩ := List.mem_map.mp hd
    obtain ⟨h1, h2, h3, h4⟩ := h p hp
    have k := pap_s p h1 h2
    refine ⟨k.hd, k.sh, ?_, k.lv, ?_⟩
    · have := k.dp
      omega
    · have := k.wt
      omega
  have e1 : (listD ps).hasDict = PyData.hasDictAll (ps.map papD) := by simp only [listD, PyData.hasDict]
  have e2 : (listD ps).showable = PyData.showableAll (ps.map papD) := by simp only [listD, PyData.showable]
  have e3 : (listD ps).depth = PyData.depthAll (ps.map papD) + 1 := by simp only [listD, PyData.depth]
  have e4 : (listD ps).leavesShort 8 = PyData.leavesShortAll 8 (ps.map papD) := by simp only [listD, PyData.leavesShort]
  have e5 : (listD ps).weight = PyData.weightAll (ps.map papD) := by simp only [listD, PyData.weight]
  rw [e1, e2, e3, e4, e5]
  refine ⟨z.hd, z.sh, ?_, z.lv, ?_⟩
  · have := z.dp
    omega
  · have := z.wt
    rw [List.length_map] at this
    omega
theorem key_s {c : List Str} (h : ∀ n ∈ c, IsName n) (hl : c.length ≤ 3) : (keyD (keyM c)).showable = true ∧ (keyD (keyM c)).depth ≤ 1 ∧ (keyD (keyM c)).leavesShort 8 = true ∧ (keyD (keyM c)).weight ≤ 27 := by
  have e : keyD (keyM c) = .tuple (c.map PyData.str) := by
    unfold keyD keyM
    rw [List.map_map] <;> rfl
  have z : AllS 9 0 (c.map PyData.str) := alls _ fun d hd => by
    obtain ⟨n, hn, rfl⟩ := List.mem_map.mp hd
    have nm := h n hn
    refine ⟨rfl, rfl, Nat.le_refl _, leaf_name nm, ?_⟩
    have : PyData.weight (.str n) ≤ 8 := nm.2.1
    omega
  rw [e]
  have e2 : (PyData.tuple (c.map PyData.str)).showable = PyData.showableAll (c.map PyData.str) := by simp only [PyData.showable]
  have e3 : (PyData.tuple (c.map PyData.str)).depth = PyData.depthAll (c.map PyData.str) + 1 := by simp only [PyData.depth]
  have e4 : (PyData.tuple (c.map PyData.str)).leavesShort 8 = PyData.leavesShortAll 8 (c.map PyData.str) := by simp only [PyData.leavesShort]
  have e5 : (PyData.tuple (c.map PyData.str)).weight = PyData.weightAll (c.map PyData.str) := by simp only [PyData.weight]
  rw [e2, e3, e4, e5]
  refine ⟨z.sh, ?_, z.lv, ?_⟩
  · have := z.dp
    omega
  · have := z.wt
    rw [List.length_map] at this
    omega
/-- what is told, as data -/
def dataT (pt : Pt) : List PyData := pt.map fun cp => listD cp.2
def toldD (pt : Pt) : PyData := .dict (pt.map fun cp => (keyD (keyM cp.1), listD cp.2))
structure PtS (pt : Pt) : Prop where
  len : pt.length ≤ 7
  each : ∀ cp ∈ pt, (∀ n ∈ cp.1, IsName n) ∧ cp.1.length ≤ 3 ∧ cp.2.length ≤ 1027 ∧ ∀ p ∈ cp.2, papOk p ∧ (∀ n ∈ papN p, IsName n) ∧ papDep p ≤ 3 ∧ (papN p).length ≤ 3
theorem kv_s : ∀ pt : Pt, (∀ cp ∈ pt, (∀ n ∈ cp.1, IsName n) ∧ cp.1.length ≤ 3 ∧ cp.2.length ≤ 1027 ∧ ∀ p ∈ cp.2, papOk p ∧ (∀ n ∈ papN p, IsName n) ∧ papDep p ≤ 3 ∧ (papN p).length ≤ 3) →
    PyData.hasDictAll (dataT pt) = false ∧ PyData.showableKv (pt.map fun cp => (keyD (keyM cp.1), listD cp.2)) = true ∧ PyData.depthKv (pt.map fun cp => (keyD (keyM cp.1), listD cp.2)) ≤ 5 ∧ PyData.leavesShortKv 8 (pt.map fun cp => (keyD (keyM cp.1), listD cp.2)) = true ∧ PyData.weightKv (pt.map fun cp => (keyD (keyM cp.1), listD cp.2)) ≤ 100000 * pt.length
  | [], _ => ⟨rfl, rfl, Nat.zero_le _, rfl, Nat.zero_le _⟩
  | cp :: pt, h => by
    obtain ⟨a1, a2, a3, a4⟩ := h cp (List.mem_cons_self ..)
    obtain ⟨t1, t2, t3, t4, t5⟩ := kv_s pt fun x hx => h x (List.mem_cons_of_mem _ hx)
    obtain ⟨k1, k2, k3, k4⟩ := key_s a1 a2
    obtain ⟨l1, l2, l3, l4, l5⟩ := list_s a4 a3
    have e0 : dataT (cp :: pt) = listD cp.2 :: dataT pt := rfl
    rw [e0, List.map_cons]
    refine ⟨?_, ?_, ?_, ?_, ?_⟩
    · rw [PyData.hasDictAll, l1, t1] <;> rfl
    · rw [PyData.showableKv, k1, l2, t2] <;> rfl
    · rw [PyData.depthKv]
      omega
    · rw [PyData.leavesShortKv, k3, l4, t4] <;> rfl
    · rw [PyData.weightKv, List.length_cons, Nat.mul_succ]
      omega
theorem told_s {pt : Pt} (h : PtS pt) : PyData.hasDictAll (dataT pt) = false ∧ (toldD pt).showable = true ∧ (toldD pt).depth ≤ 60 ∧ (toldD pt).shown.length ≤ sizeLine := by
  obtain ⟨t1, t2, t3, t4, t5⟩ := kv_s pt h.each
  have e2 : (toldD pt).showable = PyData.showableKv (pt.map fun cp => (keyD (keyM cp.1), listD cp.2)) := by simp only [toldD, PyData.showable]
  have e3 : (toldD pt).depth = PyData.depthKv (pt.map fun cp => (keyD (keyM cp.1), listD cp.2)) + 1 := by simp only [toldD, PyData.depth]
  have e4 : (toldD pt).leavesShort 8 = PyData.leavesShortKv 8 (pt.map fun cp => (keyD (keyM cp.1), listD cp.2)) := by simp only [toldD, PyData.leavesShort]
  have e5 : (toldD pt).weight = PyData.weightKv (pt.map fun cp => (keyD (keyM cp.1), listD cp.2)) := by simp only [toldD, PyData.weight]
  refine ⟨t1, by rw [e2]; exact t2, by rw [e3]; omega, ?_⟩
  have z := PyData.shown_le 8 (Nat.le_refl _) (toldD pt) (by rw [e4]; exact t4)
  rw [e5] at z
  have := h.len
  have : sizeLine = 16777216 := by decide
  omega
theorem dict_told {kvs : List (List L2.Key × L2.V)} {pt : Pt} (h : kvs.map (·.1) = pt.map fun p => keyM p.1) : dictD kvs (dataT pt) = toldD pt := by
  unfold dictD toldD dataT
  have e : kvs.map (fun p => keyD p.1) = pt.map fun cp => keyD (keyM cp.1) := by
    have z := congrArg (List.map keyD) h
    rw [List.map_map, List.map_map] at z
    exact z
  rw [e, List.zip_map'] <;> rfl
theorem choices7 {ns : List Str} (h : ns.length ≤ 3) : (choicesM ns).length ≤ 7 := by
  match ns, h with
  | [], _ => decide
  | [_], _ => exact (by decide : 1 ≤ 7)
  | [_, _], _ => exact (by decide : 3 ≤ 7)
  | [_, _, _], _ => exact (by decide : 7 ≤ 7)
theorem told_pts {sides : Str → List Int} {ns : List Str} (hn : ns.Nodup) (hs : ∀ n ∈ ns, (sides n).length = 3) (h3 : ns.length ≤ 3) (hi : ∀ n ∈ ns, IsName n) : PtS (papT (listsM sides ns)) := by
  have sh := shown_of hn hs (by omega)
  have kN : ((papT (listsM sides ns)).map (·.1)).Nodup := by
    rw [sh.keys]
    exact choices_nodup hn
  refine ⟨?_, fun cp hcp => ?_⟩
  · have z := congrArg List.length sh.keys
    rw [List.length_map] at z
    rw [z]
    exact choices7 h3
  · have hc : cp.1 ∈ choicesM ns := by
      rw [← sh.keys]
      exact List.mem_map_of_mem hcp
    have hsub := (mem_choices.mp hc).1
    have l3 := hsub.length_le
    have gp := getP_mem kN hcp
    refine ⟨fun n hm => hi n (hsub.subset hm), by omega, ?_, fun p hp => ?_⟩
    · rw [← gp, getP_papT, List.length_map]
      have z := (lists_ok hn (show ns.length ≤ 4 by omega) sides).2.1 cp.1
      have hpos := List.length_pos_iff.mpr (mem_choices.mp hc).2
      have b : bndM cp.1.length ≤ 1027 := by
        rcases (show cp.1.length = 1 ∨ cp.1.length = 2 ∨ cp.1.length = 3 by omega) with r | r | r <;> (rw [r]; decide)
      omega
    · rw [← gp] at hp
      obtain ⟨p1, p2, p3⟩ := sh.paps _ hc p hp
      exact ⟨p1, fun n hm => hi n (hsub.subset (p3.subset hm)), by omega, by rw [p3.length_eq]; omega⟩
theorem first_congr {s1 s2 : Str → List Int} {c : List Str} (h : ∀ x ∈ c, s1 x = s2 x) : firstM s1 c = firstM s2 c := by
  unfold firstM
  split
  · rw [h _ (List.mem_singleton.mpr rfl)]
  · rfl
theorem listsU_congr {s1 s2 : Str → List Int} : ∀ (n : Nat) (cs : List (List Str)), cs.length = n → (∀ c ∈ cs, ∀ x ∈ c, s1 x = s2 x) → listsU s1 cs = listsU s2 cs
  | 0, cs, h, _ => by
    rw [List.length_eq_zero_iff.mp h] <;> rfl
  | n + 1, cs, h, hc => by
    have ne : cs ≠ [] := fun e => by
      rw [e] at h
      cases h
    have ih := listsU_congr (s1 := s1) (s2 := s2) n cs.dropLast (by rw [List.length_dropLast, h] <;> rfl) fun c hm => hc c ((List.dropLast_sublist cs).subset hm)
    rw [← List.dropLast_concat_getLast ne, listsU_snoc, listsU_snoc, ih]
    unfold listM
    rw [first_congr (hc _ (List.getLast_mem ne))]
theorem lists_congr {s1 s2 : Str → List Int} {ns : List Str} (h : ∀ x ∈ ns, s1 x = s2 x) : listsM s1 ns = listsM s2 ns :=
  listsU_congr _ _ rfl fun _ hc x hx => h x ((mem_choices.mp hc).1.subset hx)
end BX
/-! the walks: right -/
namespace BX
open PySem PySem.Spec PyProof.Rows L2
theorem HeapIn.pu {K : PySem.W.Frag} {pp : Addr} {n' : Nat} {G H G1 H1 : Hp} {a dx l : Addr} {rs : List Addr} {ps : List Pcl} (P : Pu pp n' G H G1 H1) (h : HeapIn K H a dx l rs ps) (hp : PsAt K G rs ps) (ap : a ≠ pp) (lp : l ≠ pp) : HeapIn K H1 a dx l rs ps :=
  ⟨P.hold ap h.at_, P.hold lp h.lst, hp.ex (P.gr.g.trans P.gr.s), h.le⟩
/-- what a good asking wants: a heap, its book, names -/
structure AskIn (K : PySem.W.Frag) (G H : Hp) (pp a dx l bk t : Addr) (rs : List Addr) (ps : List Pcl) (kvb : List (L2.Key × V)) (bs : Bk) (ns : List Str) : Prop where
  hh : HeapIn K H a dx l rs ps
  hps : PsAt K G rs ps
  lp : l ≠ pp
  hbk : H bk = some (.dK kvb)
  hbs : BsAt G kvb bs
  ht : G t = some (.lst (ns.map V.str))
  n1 : 1 ≤ ns.length
  n4 : ns.length ≤ 4
  hN : ns.Nodup
  hnm : ∀ n ∈ ns, n ∈ ps.map (·.name)
  hbn : ∀ n ∈ ns, n ∈ bs.map (·.1)
  hse : ∀ n ∈ ns, sidesOf ps n = sidesB bs n
  hsum : (ns.map (longM ps)).sum ≤ 100000
  hst : ∀ n ∈ ns, PyData.strOk n = true
theorem ps_pc {K : PySem.W.Frag} {G : Hp} {rs : List Addr} {ps : List Pcl} {p : Pcl} (h : PsAt K G rs ps) (hp : p ∈ ps) : PcOk p := by
  obtain ⟨j, hj⟩ := List.mem_iff_getElem?.mp hp
  obtain ⟨r, _, dp, s1, m, _, _, _, ok⟩ := pr_at2 h hj
  exact ok
theorem keys_dp {K : PySem.W.Frag} {H : Hp} : ∀ {kvs : List (List L2.Key × V)} {as : List Addr} {cs : List (List Str)}, IsKeys H kvs as → kvs.map (·.1) = cs.map keyM → DpAll K H (as.map V.ref) (cs.map tupD)
  | _, _, [], .nil, _ => .nil
  | _, _, _ :: _, .nil, e => by cases e
  | _, _, [], .cons _ _, e => by cases e
  | kv :: kvs, a :: as, c :: cs, .cons h t, e => by
    rw [List.map_cons, List.map_cons] at e
    obtain ⟨e1, e2⟩ := List.cons.inj e
    have h : H a = some (.tup (kv.1.map kV)) := h
    rw [e1, keyV] at h
    exact .cons (.tup (st_of h) (dp_strs _)) (keys_dp t e2)
theorem ts_dp {K : PySem.W.Frag} {H : Hp} : ∀ {as : List Addr} {cs : List (List Str)}, TsAt H as cs → DpAll K H (as.map V.ref) (cs.map tupD)
  | _, _, .nil => .nil
  | _, _, .cons h t => .cons (.tup (st_of h) (dp_strs _)) (ts_dp t)
theorem PapT.pu {K : PySem.W.Frag} {pp : Addr} {n : Nat} {H0 Ga Ha Gb Hb : Hp} {kvs : List (List L2.Key × V)} {pt : Pt} (h : PapT K H0 Ga Ha kvs pt) (P : Pu pp n Ga Ha Gb Hb) (hp : H0 pp ≠ none) : PapT K H0 Gb Hb kvs pt :=
  h.step P.gr.g fun l vs h1 h2 h3 => ⟨P.out h2 h3, P.hold (fun z => hp (by rw [← z]; exact h1)) h3⟩
theorem PapT.pt {K : PySem.W.Frag} {H0 G H : Hp} {kvs : List (List L2.Key × V)} {pt : Pt} (h : PapT K H0 G H kvs pt) (s : Ex G H) : PtAt K H kvs pt :=
  Paired.mapP h fun _ _ ⟨h1, l, vs, h2, _, _, h5, h6⟩ => ⟨h1, l, vs, h2, h5, BX.DpAll.ex h6 s⟩
theorem handed {K : PySem.W.Frag} {σ : L2.St} {H : Hp} {t : Addr} {xs : List V} {b : Bool} {R : V → Hp → Prop} (hσ : σ[3]? = some (some (.ref t))) (ht : H t = some (.lst xs)) (k : ∀ h o, H h = none → (o = .lst xs ∨ o = .tup xs) → R (.ref h) (upd H h o)) :
    if b = true then tCB (rListQ K) (tCons (tVar 3) tNil) σ H R else tCB (rTupQ K) (tCons (tVar 3) tNil) σ H R := by
  cases b with
  | true => exact iteT rfl ⟨_, hσ, t, xs, rfl, .inl (sq_of ht), fun h nh => k h _ nh (.inl rfl)⟩
  | false => exact iteF (by decide) ⟨_, hσ, t, xs, rfl, .inl ⟨sq_of ht, fun h nh => k h _ nh (.inr rfl)⟩⟩
def sp_law_right (K : PySem.W.Frag) : Sp := spN 4 fun vs H Q _ => ∃ (G : Hp) (pp a dx l bk t : Addr) (rs : List Addr) (ps : List Pcl) (kvb : List (L2.Key × V)) (bs : Bk) (ns : List Str) (n : Nat), vs = [.ref pp, .ref a, .ref bk, .ref t] ∧ Ex G H ∧ G pp = none ∧ PurseAt H pp n ∧ n ≤ 800000 ∧ AskIn K G H pp a dx l bk t rs ps kvb bs ns ∧
  ∀ G' H', Pu pp (n + 80) G H G' H' → Q (.bl true) H'
abbrev N_law_right : List Str := ["_law_purse_here", "_law_kept", "_law_book_here", "_law_names_here", "_law_handed", "_law_stood_here", "_law_found", "_law_turn", "_law_some", "_law_choice", "_law_name", "_law_paper"]
theorem sc_law_right : FnScope N_law_right ["_law_purse_here", "_law_kept", "_law_book_here", "_law_names_here"] (defScope s_law_right) := ⟨rfl, rfl, rfl, by decide +kernel, rfl, by decide +kernel, by decide +kernel⟩
theorem w_law_right {P : Program} {w : World} {K : PySem.W.Frag} {mg : Str → Option Value} {base : Heap} (T : Tp K mg) (F_law_all_choices : FnE P w K mg base 6 (He.ga K "_law_all_choices") ["_law_names_here"] [] (sp_law_all_choices K)) (F_law_held : FnE P w K mg base 1 (He.ga K "_law_held") ["_law_falling", "_law_stored"] [] (sp_law_held K)) (F_law_laying : FnE P w K mg base 2 (He.ga K "_law_laying") ["_law_purse_here", "_law_names_here"] [] (sp_law_laying K)) (F_law_picked : FnE P w K mg base 2 (He.ga K "_law_picked") ["_law_purse_here", "_law_names_here", "_law_many"] [] (sp_law_picked K)) (F_law_ranked : FnE P w K mg base 6 (He.ga K "_law_ranked") ["_law_book_here", "_law_papers"] [] (sp_law_ranked K)) (F_law_shown : FnE P w K mg base 8 (He.ga K "_law_shown") ["_law_book_here", "_law_names_here", "_law_thing"] [] (sp_law_shown K)) (F_law_span : FnE P w K mg base 5 (He.ga K "_law_span") ["_law_book_here", "_law_paper"] [] (sp_law_span K)) (F_law_stood : FnE P w K mg base 7 (He.ga K "_law_stood") ["_law_kept"] [] (sp_law_stood K)) (F_law_take : FnE P w K mg base 1 (He.ga K "_law_take") ["_law_purse_here", "_law_many"] [] (sp_law_take K)) (F_lists_of : FnE P w K mg base 9 (He.ga K "lists_of") ["heap", "names"] [] (sp_lists_of K)) : FnE P w K mg base 10 (He.ga K "_law_right") ["_law_purse_here", "_law_kept", "_law_book_here", "_law_names_here"] [] (sp_law_right K) := by
  refine fne T.f_law_right sc_law_right (fun _ _ _ _ h => h.1) (fun _ _ _ _ _ _ us hl => match us, hl with | [_, _, _, _], _ => rfl) fun cdv A outer s H vs Q E hr hsp => ?_
  have nd := sc_law_right.nd
  refine ⟨_, (pss_cons (ps_par (i := 4) (j := 5) (by rfl) nd rfl rfl (by decide) rfl rfl (pa_cons (pe_ifExp (pt_cmpR op_eq (pcall F_law_take (hr.mono (by decide)) T.g_law_take (pa_cons (pv 0) (pa_cons pe_int pa_nil))) pe_int (nomark _)) (pe_callTy (r := rListQ K) cListQ (by rfl) T.z_list (by decide +kernel) (pa_cons (pv 3) pa_nil)) (pe_callTy (r := rTupQ K) cTupQ (by rfl) T.z_tuple (by decide +kernel) (pa_cons (pv 3) pa_nil))) (pa_cons (pcall F_law_stood (hr.mono (by decide)) T.g_law_stood (pa_cons (pv 1) pa_nil)) pa_nil)) (by rfl))
      (pss_cons (pset 6 nd (pcall F_lists_of (hr.mono (by decide)) T.g_lists_of (pa_cons (pv 1) (pa_cons (pv 4) pa_nil))))
      (pss_cons (ps_if (PW.pt (pw_or (pt_cmpR (r := rNeD K) (op_neD hr.units) (pcall F_law_stood (hr.mono (by decide)) T.g_law_stood (pa_cons (pv 1) pa_nil)) (pv 5) (nomark _)) (pw_or1 (pt_cmpR (r := rNeD K) (op_neD hr.units) (pe_callTy (r := rListQ K) cListQ (by rfl) T.z_list (by decide +kernel) (pa_cons (pv 4) pa_nil)) (pv 3) (nomark _))))) (pss_one (ps_ret pe_bl)) pss_nil)
      (pss_cons (ps_if (PW.pt (pw_or (pt_not (pt_val (pcall F_law_shown (hr.mono (by decide)) T.g_law_shown (pa_cons (pv 2) (pa_cons (pv 3) (pa_cons (pv 6) pa_nil)))))) (pw_or1 (pt_cmpR (r := rNeD K) (op_neD hr.units) (pe_callTy (r := rListDT) (cListDT rfl) (by rfl) T.z_list (by decide +kernel) (pa_cons (pv 6) pa_nil)) (pcall F_law_all_choices (hr.mono (by decide)) T.g_law_all_choices (pa_cons (pv 3) pa_nil)) (nomark _))))) (pss_one (ps_ret pe_bl)) pss_nil)
      (pss_cons (ps_for PassesOwn.never rfl (pi_range1 (by rfl) T.z_range (pa_cons pe_int pa_nil)) (pgn 7 nd) (pss_cons (pset 8 nd (pcall F_law_picked (hr.mono (by decide)) T.g_law_picked (pa_cons (pv 0) (pa_cons (pv 3) (pa_cons (pe_op op_add pe_int (pcall F_law_take (hr.mono (by decide)) T.g_law_take (pa_cons (pv 0) (pa_cons (pe_callB (r := rLenQ K) cLenQ (by rfl) T.z_len (by decide +kernel) (pa_cons (pv 3) pa_nil)) pa_nil)))) pa_nil)))))
      (pss_cons (pset 9 nd (pe_callTy (r := rTupQ K) cTupQ (by rfl) T.z_tuple (by decide +kernel) (pa_cons (pe_lc (own := [("_law_name", 10)]) (g := gName 10) rfl nd (pi_list (pv 3) : PI _ _ _ (iList K _)) (blkOk_by (N := N_law_right) (sc := defScope s_law_right) (by decide +kernel)) (fun _ _ _ _ _ => (pgn 10 nd)) (fun _ _ _ _ _ => (pts_one (pt_cmpR (r := rIn K false) op_in_seq (pv 10) (pv 8) (by rfl)))) (fun _ _ _ _ _ => (pv 10))) pa_nil)))
      (pss_cons (pset 11 nd (pcall F_law_laying (hr.mono (by decide)) T.g_law_laying (pa_cons (pv 0) (pa_cons (pv 8) pa_nil))))
      (pss_one (ps_if (pt_not (pt_val (pcall F_law_held (hr.mono (by decide)) T.g_law_held (pa_cons (pe_callBK (r := rSrtR K) (cSrtR (hu64 hr)) (by rfl) T.z_sorted (by decide +kernel) (pa_cons (pcall F_law_span (hr.mono (by decide)) T.g_law_span (pa_cons (pv 2) (pa_cons (pv 11) pa_nil))) pa_nil) (pk_cons pe_bl pk_nil)) (pa_cons (pcall F_law_ranked (hr.mono (by decide)) T.g_law_ranked (pa_cons (pv 2) (pa_cons (pe_dget (hu_of hr) (pv 6) (pv 9) (fun _ _ => rfl)) pa_nil))) pa_nil))))) (pss_one (ps_ret pe_bl)) pss_nil))))))
      (pss_one (ps_ret pe_bl))))))), ?_⟩
  replace hsp := hsp.2
  obtain ⟨G, pp, a, dx, l, bk, t, rs, ps, kvb, bs, ns, n, rfl, s0, pg, ph, hn, A, q⟩ := hsp
  have P0 : Pu pp n G H G H := Pu.start s0 pg ph
  have pl : ∃ xs, H pp = some (.lst xs) := by
    obtain ⟨o, ho, x, y, z, rfl, _⟩ := ph
    exact ⟨_, ho⟩
  obtain ⟨pxs, hpp⟩ := pl
  have ap : a ≠ pp := ne_of A.hh.at_ hpp (fun z => nomatch z)
  have bp : bk ≠ pp := ne_of A.hbk hpp (fun z => nomatch z)
  have lV : (ns.map V.str).length = ns.length := List.length_map _
  have bkg := A.hh
  refine ⟨_, rfl, rfl, pp, 2, n, rfl, by decide, by decide, ph, by omega, fun d o d0 d1 ho => ⟨rfl, _, rfl, ?_⟩⟩
  have P1 := P0.draw ho
  have ht1 := P1.gr.s _ _ A.ht
  refine handed rfl ht1 fun h ob nh hob => ?_
  have P2 := P1.new (o := ob) nh
  have hS : SeqAt (upd G h ob) h (ns.map V.str) := by
    rcases hob with r | r
    · exact .inl (by rw [upd_same, r])
    · exact .inr (by rw [upd_same, r])
  have e2 : Ex G (upd G h ob) := P2.gr.g
  have hh2 := A.hh.pu P2 A.hps ap A.lp
  generalize upd G h ob = G2 at *
  generalize upd (upd H pp o) h ob = H2 at *
  refine ⟨_, rfl, rfl, a, dx, l, rs, ps, rfl, hh2, fun l2 H3 nl2 e3 hl2 => ⟨_, _, rfl, ?_⟩⟩
  have P3 := P2.exH e3
  refine ⟨_, rfl, _, rfl, rfl, G2, a, dx, l, h, rs, ps, ns, rfl, P3.gr.s, hh2.ex e3, A.hps.ex e2, hS, A.n1, A.n4, A.hN, A.hnm, A.hsum, fun f kv2 G4 H4 g4 nf gf hf hpt => ?_⟩
  have P4 := P3.pure g4
  have hh4 := (hh2.ex e3).ex g4.e
  have eL : listsM (sidesOf ps) ns = listsM (sidesB bs) ns := lists_congr A.hse
  rw [eL] at hpt
  have hs3 : ∀ n ∈ ns, (sidesB bs n).length = 3 := fun n hn => by
    obtain ⟨_, _, _, z⟩ := bs_get A.hbs (A.hbn n hn)
    exact z
  have hsh := shown_of A.hN hs3 A.n4
  have hdr := fun {c} (hc : c ∈ choicesM ns) {p} (hk : papOk p) (hp : (papN p).Perm c) => drawn_held A.hN hs3 hc hk hp
  have hlen : ∀ c ∈ choicesM ns, (getP (papT (listsM (sidesB bs) ns)) c).length ≤ 200000 := hsh.short
  generalize papT (listsM (sidesB bs) ns) = pt at *
  have hl24 := g4.e _ _ hl2
  have shS : PySem.SeqAt.shaped (.list ((ps.map strP).map PyData.str)) = true := shaped_strs fun x hx => by
    obtain ⟨p, hp, rfl⟩ := List.mem_map.mp hx
    exact strP_ok (ps_pc A.hps hp)
  have shN : PySem.SeqAt.shaped (.list (ns.map PyData.str)) = true := shaped_strs A.hst
  refine ⟨_, rfl, rfl, a, dx, l, rs, ps, rfl, hh4, fun l5 H5 nl5 e5 hl5 => ⟨_, rfl, .list ((ps.map strP).map .str), .list ((ps.map strP).map .str), .lst (sq_of hl5) (dp_strs _), .lst (sq_of (e5 _ _ hl24)) (dp_strs _), shS, shS, _, rfl, ?_⟩⟩
  rw [eqv_strs]
  refine iteF (by decide) ?_
  have P5 := P4.exH e5
  refine ⟨_, rfl, h, _, rfl, ((hS.ex g4.g).ex P5.gr.s).q, fun p6 np6 => ⟨_, rfl, .list (ns.map .str), .list (ns.map .str), .lst (sq_of upd_same) (dp_strs _), .lst (sq_of (upk (P5.gr.s _ _ (P5.gr.g _ _ A.ht)) np6)) (dp_strs _), shN, shN, _, rfl, ?_⟩⟩
  rw [eqv_strs]
  refine iteF (by decide) ?_
  have e6 : Ex H4 (upd H5 p6 (.lst (ns.map V.str))) := e5.trans (Ex.new np6)
  generalize upd H5 p6 (.lst (ns.map V.str)) = H6 at *
  have P6 := P4.exH e6
  have pt6 := hpt.pt P4.gr.s
  refine ⟨_, rfl, _, rfl, _, rfl, rfl, bk, t, f, kvb, bs, ns, kv2, pt, rfl, P6.hold bp A.hbk, A.hbs.ex (P6.gr.g.trans P6.gr.s), P6.gr.s _ _ (P6.gr.g _ _ A.ht), A.n4, A.hN, A.hbn, A.hst, e6 _ _ hf, pt6.ex e6, hsh, fun H7 e7 => ⟨_, rfl, iteF (by decide) ?_⟩⟩
  have e7' := e6.trans e7
  refine ⟨_, rfl, f, kv2, rfl, .inl (e7' _ _ hf), fun p8 as8 np8 hk8 => ?_⟩
  have P8 := (P4.exH e7').exH (Ex.new (o := .lst (as8.map V.ref)) np8)
  have e8 := Ex.new (o := .lst (as8.map V.ref)) np8
  have kk : kv2.map (·.1) = (choicesM ns).map keyM := by
    rw [PapT.keys hpt, ← hsh.keys, List.map_map] <;> rfl
  have shC : PySem.SeqAt.shaped (.list ((choicesM ns).map tupD)) = true := shaped_tups fun c hc x hx => A.hst x ((mem_choices.mp hc).1.subset hx)
  refine ⟨_, rfl, rfl, G4, t, ns, rfl, P8.gr.s, P4.gr.g _ _ A.ht, A.n4, fun lc rsc G9 H9 g9 hlc hrc => ⟨.list ((choicesM ns).map tupD), .list ((choicesM ns).map tupD), .lst (sq_of (g9.e _ _ upd_same)) (DpAll.ex (keys_dp hk8 kk) (e8.trans g9.e)), .lst (sq_of (g9.s _ _ hlc)) (ts_dp (hrc.ex g9.s)), shC, shC, _, rfl, ?_⟩⟩
  rw [eqv_tups]
  refine iteF (by decide) ?_
  have P9 := P8.pure g9
  have eH9 := (e7'.trans e8).trans g9.e
  have hpp3 : H3 pp ≠ none := P3.hm pp rfl
  have pt9 : PapT K H3 G9 H9 kv2 pt := hpt.step g9.g fun l vs h1 h2 h3 => ⟨g9.out h2 ((e7'.trans e8) _ _ h3), eH9 _ _ h3⟩
  refine ⟨_, rfl, by decide, by decide, forE (walk_rg (n := 3)) (fun i σ H' => ∃ G' o7 o8 o9 o10 o11, σ = [some (.ref pp), some (.ref a), some (.ref bk), some (.ref t), some (.ref h), some (.ref l2), some (.ref f), o7, o8, o9, o10, o11] ∧ Pu pp (n + 1 + 26 * i) G H G' H' ∧ H' f = some (.dT kv2) ∧ PapT K H3 G' H' kv2 pt)
    ⟨G9, none, none, none, none, none, rfl, P9, eH9 _ _ hf, pt9⟩ (fun _ _ _ _ _ => trivial) (fun i z σ Ha Hb N hi pv hz k1 => ?_) fun σ H' pv => ?_⟩
  · obtain ⟨Ga, o7, o8, o9, o10, o11, rfl, Pa, hfa, pta⟩ := pv
    obtain ⟨rfl, rfl⟩ := hz
    have hta := Pa.gr.g _ _ A.ht
    have htH := Pa.gr.s _ _ hta
    have n1 := A.n1
    have n4 := A.n4
    refine ⟨_, rfl, _, rfl, _, rfl, _, rfl, t, _, rfl, .inl (sq_of htH), rfl, pp, _, _, rfl, by rw [lV]; omega, by rw [lV]; omega, Pa.ph, by omega, fun d o d0 d1 ho => ⟨_, _, rfl, rfl, ?_⟩⟩
    rw [lV] at d1
    have Pb := Pa.draw ho
    refine ⟨rfl, Ga, pp, t, ns, (1 + d).toNat, _, ?_, Pb.gr.s, Pb.pg, Pb.ph, by omega, hta, by omega, by omega, fun ls xs Gc Hc Pc hls xl hperm => ?_⟩
    · show [V.ref pp, V.ref t, V.int (1 + d)] = [V.ref pp, V.ref t, V.int (((1 + d).toNat : Nat) : Int)]
      rw [show (((1 + d).toNat : Nat) : Int) = 1 + d by omega]
    obtain ⟨rest, hperm⟩ := hperm
    have Pd := Pb.trans Pc
    have htc := Pd.gr.s _ _ (Pd.gr.g _ _ A.ht)
    have lsH := Pc.gr.s _ _ hls
    refine ⟨_, rfl, t, rfl, ⟨_, sq_of htc⟩, fun D nD => lcE (walk_list (xs := ns.map V.str)) (fun m => (ns[m]?).bind fun x => if x ∈ xs then some (V.str x) else none) nD (sz_lt (by rw [lV]; omega)) (fun H8 e8 => sq_of (e8 _ _ htc)) (fun m v H8 H9 R S hm e8 hy8 kk1 kk2 => ?_) fun H8 e8 hD8 => ?_⟩
    · obtain ⟨rfl, hy8⟩ := hy8
      rw [List.getElem?_map] at hy8
      obtain ⟨x, hx, rfl⟩ := Option.map_eq_some_iff.mp hy8
      rw [hx] at kk1 kk2
      refine ⟨rfl, _, rfl, _, rfl, ls, _, rfl, .inl (sq_of (e8 _ _ lsH)), rfl, flat_strs _, _, rfl, ?_⟩
      by_cases e : x ∈ xs
      · refine iteT ?_ ⟨_, rfl, kk1 _ _ (Ex.refl _) (by simp only [Option.bind_some]; exact if_pos e)⟩
        exact inV_strs e
      · refine iteF ?_ (kk2 _ (Ex.refl _) (by simp only [Option.bind_some]; exact if_neg e))
        show ¬ inV (.str x) (xs.map V.str) = true
        rw [inV_str, decide_eq_false e]
        decide
    have hD9 : H8 D = some (.lst ((ns.filter fun x => decide (x ∈ xs)).map V.str)) := by
      rw [hD8, lV, fm_list (fun x => if x ∈ xs then some (V.str x) else none) ns, fm_if]
    refine ⟨D, _, rfl, .inl ⟨sq_of hD9, fun b nb => ?_⟩⟩
    have hxn : xs.Nodup := (List.nodup_append.mp (hperm.nodup_iff.mpr A.hN)).1
    have hxd := (List.nodup_append.mp (hperm.nodup_iff.mpr A.hN)).2.2
    have hxp : xs.Perm (ns.filter fun x => decide (x ∈ xs)) := by
      have z := hperm.filter (fun x => decide (x ∈ xs))
      rw [List.filter_append, List.filter_eq_self.mpr (fun x hx => by simpa using hx), List.filter_eq_nil_iff.mpr (fun x hx z => hxd x (by simpa using z) x hx rfl), List.append_nil] at z
      exact z
    have xl1 : 1 ≤ xs.length := by omega
    have xl4 : xs.length ≤ 4 := by omega
    have hcm : (ns.filter fun x => decide (x ∈ xs)) ∈ choicesM ns := mem_choices.mpr ⟨List.filter_sublist, fun z => by
      have := hxp.length_eq
      rw [z] at this
      have e0 : ([] : List Str).length = 0 := rfl
      omega⟩
    have Pe := (Pc.exH e8).exH (Ex.new (o := .tup ((ns.filter fun x => decide (x ∈ xs)).map V.str)) nb)
    have hb : upd H8 b (.tup ((ns.filter fun x => decide (x ∈ xs)).map V.str)) b = some (.tup ((ns.filter fun x => decide (x ∈ xs)).map V.str)) := upd_same
    generalize upd H8 b (.tup ((ns.filter fun x => decide (x ∈ xs)).map V.str)) = He at *
    generalize (ns.filter fun x => decide (x ∈ xs)) = c at *
    have Pf := Pb.trans Pe
    refine ⟨_, rfl, _, rfl, rfl, Gc, pp, ls, xs, _, rfl, Pe.gr.s, Pe.pg, Pe.ph, by omega, hls, xl1, xl4, fun v p Gg Hg Pg dv pok pperm pdep => ?_⟩
    have Ph := Pf.trans Pg
    have pcp : (papN p).Perm c := pperm.trans hxp
    have fpp : f ≠ pp := fun z => hpp3 (by rw [← z]; exact nf)
    have bpp : b ≠ pp := by
      obtain ⟨o, ho, x, y, w, rfl, _⟩ := Pe.ph
      exact ne_of hb ho (fun z => nomatch z)
    have PP := (((Pu.start Pa.gr.s Pa.pg Pa.ph).draw ho).trans Pe).trans Pg
    have hfg := PP.hold fpp hfa
    have ptg := (pta.pu PP hpp3).pt Ph.gr.s
    have hbg := Pg.hold bpp hb
    have hbkg := Ph.hold bp A.hbk
    have hbsg := A.hbs.ex Ph.gr.g
    have pdl : papDep p ≤ 5 := by omega
    have pnm : ∀ n ∈ papN p, n ∈ bs.map (·.1) := fun n hm => A.hbn n ((mem_choices.mp hcm).1.subset (pcp.subset hm))
    obtain ⟨l6, ws, v1, hl6, hdw⟩ := pt_get ptg (c := c) (by rw [hsh.keys]; exact hcm)
    refine ⟨_, rfl, _, rfl, rfl, Gg, bk, kvb, bs, v, p, rfl, Ph.gr.s, hbkg, hbsg, dv, pok, pdl, pnm, fun l3 H10 n3 e10 hl3 => ⟨l3, spanM (sidesB bs) p, rfl, rfl, .inl (sq_of hl3), fun r nr => ?_⟩⟩
    have e11 := e10.trans (Ex.new (o := .lst ((srtI true (spanM (sidesB bs) p)).map V.int)) nr)
    have hr11 : upd H10 r (.lst ((srtI true (spanM (sidesB bs) p)).map V.int)) r = some (.lst ((srtI true (spanM (sidesB bs) p)).map V.int)) := upd_same
    generalize upd H10 r (.lst ((srtI true (spanM (sidesB bs) p)).map V.int)) = H11 at *
    refine ⟨_, rfl, _, rfl, _, rfl, f, _, rfl, (by rw [← v1]; exact DGet.t (e11 _ _ hfg) (by rw [keyV]; exact e11 _ _ hbg)), rfl, bk, l6, kvb, bs, ws, getP pt c, rfl, e11 _ _ hbkg, (hbsg.ex Ph.gr.s).ex e11, e11 _ _ hl6, BX.DpAll.ex hdw e11, hlen c hcm, fun p' hp' => ?_, fun l4 rs4 H12 n12 e12 hl4 hI => ⟨rfl, r, l4, _, rs4, _, rfl, e12 _ _ hr11, rank_len pok, hl4, hI, _, rfl, ?_⟩⟩
    · obtain ⟨p1, p2, p3⟩ := hsh.paps c hcm p' hp'
      have lc := (mem_choices.mp hcm).1.length_le
      exact ⟨p1, by omega, fun n hm => A.hbn n ((mem_choices.mp hcm).1.subset (p3.subset hm))⟩
    rw [hdr hcm pok pcp]
    have e13 := e11.trans e12
    exact iteF (by decide) (k1 _ _ ⟨Gg, _, _, _, _, _, rfl, (Ph.exH e13).le (by omega), e13 _ _ hfg, (pta.pu PP hpp3).pu ((Pu.start Ph.gr.s Ph.pg Ph.ph).exH e13) hpp3⟩)
  · obtain ⟨Ga, o7, o8, o9, o10, o11, rfl, Pa, hfa, pta⟩ := pv
    exact q _ _ (Pa.le (by omega))
end BX
/-! the walks: asked again -/
namespace BX
open PySem PySem.Spec PyProof.Rows L2
/-- a def called where no repr runs, by its promise -/
structure FnGE (P : Program) (w : World) (K : PySem.W.Frag) (mg : Str → Option Value) (base : Heap) (k : Nat) (f : Addr) (ps : List Str) (sp : Sp) : Prop where
  ex : ∃ fd, FnG P w K mg base k f fd ps sp ∧ Binds K fd ps []
  kp : PySem.W.keepIn K (.ref f) = true
section
variable {P : Program} {w : World} {K : PySem.W.Frag} {mg : Str → Option Value} {base : Heap}
theorem FnGE.mono {j k : Nat} {f : Addr} {ps : List Str} {sp : Sp} (F : FnGE P w K mg base j f ps sp) (h : j ≤ k) : FnGE P w K mg base k f ps sp := by
  obtain ⟨⟨fd, a, b⟩, kp⟩ := F
  exact ⟨⟨fd, a.mono h, b⟩, kp⟩
theorem fngE {x qual : Str} {st : Stmt} {f : Addr} {N ps : List Str} {k : Nat} {sp : Sp} (F : ∃ fd, FunD K x qual (defArgs st) (defBody st) (defScope st) [] [] f fd) (S : FnScope N ps (defScope st)) (len : ∀ vs H Q E, sp vs H Q E → vs.length = ps.length)
    (hb : ∀ (kV doc pm : Value) (an : Option Addr) (cdv ct : Value) (us : List Value), us.length = ps.length → bindArgs (PySem.W.fnOf x qual (defArgs st) (defBody st) (defScope st) .none kV doc pm an cdv ct) ⟨us, []⟩ = pure (ps.zip us))
    (hbody : ∀ (cdv : Value) (A : Around) (outer : List Env) (s : Shared) (H : Hp) (vs : List V) (Q : VK) (E : XK), A.guards = some [] → Room k (A.deeper (envOfC qual (defScope st) s.heap.objs.size f cdv)) → sp vs H Q E →
      ∃ t, PSs (cxOf CX0 P w K mg base N qual (defScope st) f cdv A outer s H E).nox (defBody st) t ∧ t { nx := fun _ H' => Q .non H', rt := Q } (start N vs) H) : FnGE P w K mg base (k + 1) f ps sp := by
  obtain ⟨fd, F⟩ := F
  exact ⟨⟨fd, fng F S len hbody, F.bindsN hb⟩, F.kp⟩
end
theorem pcallGE {X : Cx} {k : Nat} {f : Addr} {ps : List Str} {sp : Sp} {x : Str} {e : Expr} {es : List Expr} {t : TA} {p pos : Pos} (F : FnGE X.prog X.w X.K X.mg X.base k f ps sp) (hgd : X.A.guards = some []) (hr : Room k X.A) (hm : X.mg x = some (.ref f)) (ha : PA X (e :: es) t) (hg : Gl X x := by rfl)
    (hdb : (x == ("__debug__" : Str)) = false := by decide) (he : starEach (e :: es) X.env = (false, eval e X.env) :: starEach es X.env := by rfl) (hpl : (backTo pos (starEach es X.env)).any (·.1) = false := by rfl) :
    PE X (.Call (.Name x p) (e :: es) [] pos) (tCall sp [] E0 t) := by
  obtain ⟨⟨fd, a, b⟩, kp⟩ := F
  exact pcallG a b kp hgd hr hm ha hg hdb he hpl
theorem told_vals {K : PySem.W.Frag} {H0 G H : Hp} : ∀ {kvs : List (List L2.Key × V)} {pt : Pt}, PapT K H0 G H kvs pt → Ex G H → DpAll K H (kvs.map (·.2)) (dataT pt)
  | _, _, .nil, _ => .nil
  | kv :: kvs, cp :: pt, .cons ⟨_, l, vs, h2, _, _, h5, h6⟩ t, s => by
    have e : dataT (cp :: pt) = listD cp.2 :: dataT pt := rfl
    rw [List.map_cons, h2, e]
    exact .cons (.lst (sq_of h5) (BX.DpAll.ex h6 s)) (told_vals t s)
theorem dT_pos {K : PySem.W.Frag} {H0 G H : Hp} {kvs : List (List L2.Key × V)} {pt : Pt} (h : PapT K H0 G H kvs pt) : kvs.length = pt.length := h.length
/-- the list of a choice -/
theorem papT_get {K : PySem.W.Frag} {H0 G H : Hp} : ∀ {kvs : List (List L2.Key × V)} {pt : Pt} {c : List Str}, PapT K H0 G H kvs pt → c ∈ pt.map (·.1) → ∃ l vs, valV kvs (keyM c) = some (.ref l) ∧ H0 l = none ∧ G l = none ∧ H l = some (.lst vs) ∧ vs.length = (getP pt c).length
  | _, _, c, .nil, h => by cases h
  | kv :: kvs, (d, ls) :: pt, c, .cons ⟨h1, l, vs, h2, h3, h4, h5, h6⟩ t, h => by
    by_cases e : d = c
    · refine ⟨l, vs, ?_, h3, h4, h5, ?_⟩
      · rw [valV_pos (by rw [h1, ← e]), h2]
      · rw [getP_cons, if_pos e, dpAll_length h6, List.length_map]
    · have h7 : c ∈ pt.map (·.1) := by
        rcases List.mem_cons.mp h with z | z
        · exact absurd z.symm e
        · exact z
      obtain ⟨l2, vs2, g1, g2, g3, g4, g5⟩ := papT_get (kvs := kvs) t h7
      refine ⟨l2, vs2, ?_, g2, g3, g4, ?_⟩
      · rw [valV_neg (fun z => e (key_inj (h1.symm.trans z))), g1]
      · rw [getP_cons, if_neg e]
        exact g5
def sp_law_again (K : PySem.W.Frag) : Sp := spN 2 fun vs H Q _ => ∃ (G : Hp) (a dx l t : Addr) (rs : List Addr) (ps : List Pcl) (ns : List Str), vs = [.ref a, .ref t] ∧ Ex G H ∧ HeapIn K H a dx l rs ps ∧ PsAt K G rs ps ∧ G t = some (.lst (ns.map V.str)) ∧ 1 ≤ ns.length ∧ ns.length ≤ 3 ∧ ns.Nodup ∧ (∀ n ∈ ns, n ∈ ps.map (·.name)) ∧ (ns.map (longM ps)).sum ≤ 100000 ∧ (∀ n ∈ ns, IsName n) ∧
  ∀ G' H', Gr none G H G' H' → Q (.bl true) H'
abbrev N_law_again : List Str := ["_law_kept", "_law_names_here", "_law_found", "_law_due"]
theorem sc_law_again : FnScope N_law_again ["_law_kept", "_law_names_here"] (defScope s_law_again) := ⟨rfl, rfl, rfl, by decide +kernel, rfl, by decide +kernel, by decide +kernel⟩
theorem w_law_again {P : Program} {w : World} {K : PySem.W.Frag} {mg : Str → Option Value} {base : Heap} (T : Tp K mg) (F_lists_of : FnE P w K mg base 9 (He.ga K "lists_of") ["heap", "names"] [] (sp_lists_of K)) : FnGE P w K mg base 10 (He.ga K "_law_again") ["_law_kept", "_law_names_here"] (sp_law_again K) := by
  refine fngE T.f_law_again sc_law_again (fun _ _ _ _ h => h.1) (fun _ _ _ _ _ _ us hl => match us, hl with | [_, _], _ => rfl) fun cdv A outer s H vs Q E hgd hr hsp => ?_
  have nd := sc_law_again.nd
  refine ⟨_, (pss_cons (pset 2 nd (pcall F_lists_of (hr.mono (by decide)) T.g_lists_of (pa_cons (pv 0) (pa_cons (pv 1) pa_nil))))
      (pss_cons (pset 3 nd (pe_callB (r := rReprD K) (cReprD T.sys hgd (hu64 hr)) (by rfl) T.z_repr (by decide +kernel) (pa_cons (pv 2) pa_nil)))
      (pss_cons (ps_expr (pe_bm PySem.F.plainAttrs_list PySem.F.slot_list_append PySem.F.type_list_append mt_append (pe_dget (hu_of hr) (pv 2) (pe_callTy (r := rTupQ K) cTupQ (by rfl) T.z_tuple (by decide +kernel) (pa_cons (pv 1) pa_nil)) (fun _ _ => rfl)) (pa_cons pe_non pa_nil) : PE _ _ (tBM K _ _ _ _)))
      (pss_cons (ps_expr (pe_bm0 PySem.F.plainAttrs_list PySem.F.slot_list_pop PySem.F.type_list_pop mt_pop (pe_dget (hu_of hr) (pv 2) (pe_tup (pa_cons (pe_ix (r := rIxL K) ix_list (pv 1) pe_int (fun _ _ => rfl)) pa_nil)) (fun _ _ => rfl)) : PE _ _ (tBM0 K _ _ _)))
      (pss_cons (ps_dtxt (hu16 hr) (pv 2) pe_str (pe_lst pa_nil))
      (pss_one (ps_ret (pe_cmpR op_eq (pe_callB (r := rReprD K) (cReprD T.sys hgd (hu64 hr)) (by rfl) T.z_repr (by decide +kernel) (pa_cons (pcall F_lists_of (hr.mono (by decide)) T.g_lists_of (pa_cons (pv 0) (pa_cons (pv 1) pa_nil))) pa_nil)) (pv 3) (nomark _))))))))), ?_⟩
  replace hsp := hsp.2
  obtain ⟨G, a, dx, l, t, rs, ps, ns, rfl, s0, hh, hps, ht, n1, n3, hN, hnm, hsum, hI, q⟩ := hsp
  have hs3 : ∀ n ∈ ns, (sidesOf ps n).length = 3 := fun n hn => by
    obtain ⟨p, hp, _⟩ := of_name (hnm n hn)
    unfold sidesOf
    rw [hp]
    exact (ps_pc hps (List.mem_of_getElem? hp)).len
  have pts := told_pts hN hs3 n3 hI
  have hsh := shown_of hN hs3 (show ns.length ≤ 4 by omega)
  obtain ⟨d1, d2, d3, d4⟩ := told_s pts
  obtain ⟨pt, ept⟩ : ∃ pt, papT (listsM (sidesOf ps) ns) = pt := ⟨_, rfl⟩
  rw [ept] at pts hsh d1 d2 d3 d4
  refine ⟨_, rfl, _, rfl, rfl, G, a, dx, l, t, rs, ps, ns, rfl, s0, hh, hps, .inl ht, n1, by omega, hN, hnm, hsum, fun f kv2 G1 H1 g1 nf gf hf hpt => ?_⟩
  rw [ept] at hpt
  have ed : dictD kv2 (dataT pt) = toldD pt := dict_told (PapT.keys hpt)
  refine ⟨_, rfl, f, kv2, dataT pt, rfl, hf, told_vals hpt g1.s, d1, by rw [ed]; exact d2, by rw [ed]; exact d3, by rw [ed]; exact d4, ?_⟩
  rw [ed]
  have nsne : ns ≠ [] := fun z => by
    rw [z] at n1
    exact absurd n1 (by decide)
  have cN : ns ∈ choicesM ns := mem_choices.mpr ⟨List.Sublist.refl _, nsne⟩
  obtain ⟨n0, hn0⟩ : ∃ n0, ns[0]? = some n0 := ⟨ns[0], List.getElem?_eq_getElem (by omega)⟩
  have c0 : [n0] ∈ choicesM ns := mem_choices.mpr ⟨List.singleton_sublist.mpr (List.mem_of_getElem? hn0), by simp⟩
  obtain ⟨l1, vs1, v1, a1, a2, a3, a4⟩ := papT_get hpt (c := ns) (by rw [hsh.keys]; exact cN)
  obtain ⟨l2, vs2, w1, b1, b2, b3, b4⟩ := papT_get hpt (c := [n0]) (by rw [hsh.keys]; exact c0)
  have ht1 := g1.s _ _ (g1.g _ _ ht)
  refine ⟨_, rfl, _, rfl, t, _, rfl, .inl ⟨sq_of ht1, fun b nb => ?_⟩⟩
  have g2 := g1.exH (Ex.new (o := .tup (ns.map V.str)) nb)
  have hl1 := upk (x := .tup (ns.map V.str)) a3 nb
  have lv1 := hsh.short ns cN
  refine ⟨f, .ref l1, rfl, (by rw [← v1]; exact DGet.t (upk hf nb) (by rw [keyV]; exact upd_same)), .inl ⟨rfl, _, sq_of hl1⟩, l1, vs1, .non, rfl, rfl, hl1, sz_lt (by omega), ?_⟩
  have g3 := g2.mut (o := .lst (vs1 ++ [.non])) a1 a2
  have hf3 : upd (upd H1 b (.tup (ns.map V.str))) l1 (.lst (vs1 ++ [.non])) f = some (.dT kv2) := by
    rw [upd_ne (ne_of hf a3 (fun z => nomatch z))]
    exact upk hf nb
  have hlst : ∃ xs y, upd (upd H1 b (.tup (ns.map V.str))) l1 (.lst (vs1 ++ [.non])) l2 = some (.lst xs) ∧ xs[xs.length - 1]? = some y := by
    by_cases e : l2 = l1
    · rw [e]
      exact ⟨_, .non, upd_same, by simp⟩
    · rw [upd_ne e]
      have p0 := hsh.some_ [n0] c0
      have l0 : 0 < vs2.length := by
        rw [b4]
        exact List.length_pos_iff.mpr p0
      exact ⟨vs2, vs2[vs2.length - 1], upk b3 nb, List.getElem?_eq_getElem (by omega)⟩
  generalize upd (upd H1 b (.tup (ns.map V.str))) l1 (.lst (vs1 ++ [.non])) = H3 at *
  obtain ⟨xs, y, hl2, hy⟩ := hlst
  have ht3 := g3.s _ _ (g1.g _ _ ht)
  refine ⟨_, rfl, _, rfl, t, _, 0, _, rfl, rfl, sq_of ht3, atI_nat (j := 0) (by rw [List.getElem?_map, hn0] <;> rfl), szl (by simp), fun tb ntb => ?_⟩
  have g4 := g3.exH (Ex.new (o := .tup [.str n0]) ntb)
  have hl4 := upk (x := .tup [.str n0]) hl2 ntb
  refine ⟨f, .ref l2, rfl, (by rw [← w1]; exact DGet.t (upk hf3 ntb) (by rw [keyV]; exact upd_same)), .inl ⟨rfl, _, sq_of hl4⟩, l2, xs, y, rfl, rfl, hl4, hy, ?_⟩
  have g5 := g4.mut (o := .lst xs.dropLast) b1 b2
  have hf5 : upd (upd H3 tb (.tup [.str n0])) l2 (.lst xs.dropLast) f = some (.dT kv2) := by
    rw [upd_ne (ne_of hf3 hl2 (fun z => nomatch z))]
    exact upk hf3 ntb
  generalize upd (upd H3 tb (.tup [.str n0])) l2 (.lst xs.dropLast) = H5 at *
  refine ⟨szl (by simp), fun b3 nb3 => ⟨_, rfl, f, kv2, _, rfl, rfl, upk hf5 nb3, ?_, ?_⟩⟩
  · have z1 : kv2.length = pt.length := hpt.length
    have z2 := congrArg List.length hsh.keys
    rw [List.length_map] at z2
    have z3 := List.length_pos_of_mem cN
    omega
  have g6 := (g5.exH (Ex.new (o := .lst []) nb3)).mut (o := .ext fun _ => True) nf gf
  generalize upd (upd H5 b3 (.lst [])) f (.ext fun _ => True) = H6 at *
  refine ⟨_, rfl, _, rfl, rfl, G1, a, dx, l, t, rs, ps, ns, rfl, g6.s, hh.ex g6.e, hps.ex g1.g, .inl (g1.g _ _ ht), n1, by omega, hN, hnm, hsum, fun f2 kv3 G7 H7 g7 nf2 gf2 hf2 hpt2 => ?_⟩
  rw [ept] at hpt2
  have ed2 : dictD kv3 (dataT pt) = toldD pt := dict_told (PapT.keys hpt2)
  refine ⟨f2, kv3, dataT pt, rfl, hf2, told_vals hpt2 g7.s, d1, by rw [ed2]; exact d2, by rw [ed2]; exact d3, by rw [ed2]; exact d4, ?_⟩
  rw [ed2]
  refine ⟨_, rfl, rfl, ?_⟩
  rw [decide_eq_true rfl]
  exact q _ _ (g6.step g7)
end BX
/-! the walks: four right -/
namespace BX
open PySem PySem.Spec PyProof.Rows L2
theorem long_le {B : Int} {l : List Int} (h3 : l.length = 3) (h : ∀ x ∈ l, x ≤ B) : gN (srtI true l) 0 ≤ B := by
  have hl : 0 < (srtI true l).length := by
    rw [srtI_len]
    omega
  have hm : gN (srtI true l) 0 ∈ srtI true l := List.mem_of_getElem? (gN_get hl)
  exact h _ ((srtI_self l).subset hm)
theorem long_sum {ps : List Pcl} {B : Int} : ∀ ns : List Str, (∀ n ∈ ns, longM ps n ≤ B) → (ns.map (longM ps)).sum ≤ (ns.length : Nat) * B
  | [], _ => by simp
  | n :: ns, h => by
    have h1 := h n (List.mem_cons_self ..)
    have h2 := long_sum ns fun m hm => h m (List.mem_cons_of_mem _ hm)
    have e : (((n :: ns).length : Nat) : Int) * B = (ns.length : Nat) * B + B := by
      rw [List.length_cons, Int.natCast_add, Int.add_mul]
      simp
    rw [List.map_cons, List.sum_cons, e]
    omega
/-- a book out of what stands, the first names done -/
def BkIn (G H : Hp) (d : Addr) (ns : List Str) (m : Nat) : Prop := ∃ (kvs : List (L2.Key × V)) (bs : Bk), G d = none ∧ H d = some (.dK kvs) ∧ BsAt G kvs bs ∧ bs.map (·.1) = ns.take m ∧ BookB 120 bs
theorem BkIn.pu {pp : Addr} {n : Nat} {Ga Ha Gb Hb : Hp} {d : Addr} {ns : List Str} {m : Nat} (h : BkIn Ga Ha d ns m) (P : Pu pp n Ga Ha Gb Hb) (dp : d ≠ pp) : BkIn Gb Hb d ns m := by
  obtain ⟨kvs, bs, h1, h2, h3, h4⟩ := h
  exact ⟨kvs, bs, P.out h1 h2, P.hold dp h2, h3.ex P.gr.g, h4⟩
theorem BkIn.upd {G H : Hp} {d e : Addr} {o : HO} {ns : List Str} {m : Nat} (h : BkIn G H d ns m) (ne : d ≠ e) : BkIn G (L2.upd H e o) d ns m := by
  obtain ⟨kvs, bs, h1, h2, h3, h4⟩ := h
  exact ⟨kvs, bs, h1, by rw [upd_ne ne]; exact h2, h3, h4⟩
/-- a heap by a book -/
def HIn (K : PySem.W.Frag) (G H : Hp) (pp D a : Addr) (bs : Bk) : Prop := ∃ (dx l : Addr) (rs : List Addr) (ps : List Pcl), HeapIn K H a dx l rs ps ∧ PsAt K G rs ps ∧ l ≠ pp ∧ a ≠ pp ∧ l ≠ D ∧ ps.map (·.name) = bs.map (·.1) ∧ ps.map (·.three) = bs.map (·.2)
theorem HIn.pu {K : PySem.W.Frag} {pp D a : Addr} {n : Nat} {Ga Ha Gb Hb : Hp} {bs : Bk} (h : HIn K Ga Ha pp D a bs) (P : Pu pp n Ga Ha Gb Hb) : HIn K Gb Hb pp D a bs := by
  obtain ⟨dx, l, rs, ps, h1, h2, h3, h4, h5⟩ := h
  exact ⟨dx, l, rs, ps, h1.pu P h2 h4 h3, h2.ex P.gr.g, h3, h4, h5⟩
theorem HIn.upd {K : PySem.W.Frag} {pp D a : Addr} {G H : Hp} {bs : Bk} {ys zs : List V} (h : HIn K G H pp D a bs) (s : Ex G H) (hD : H D = some (.lst ys)) (gD : G D = none) : HIn K G (L2.upd H D (.lst zs)) pp D a bs := by
  obtain ⟨dx, l, rs, ps, h1, h2, h3, h4, h5, h6⟩ := h
  have aD : a ≠ D := ne_of h1.at_ hD (fun z => nomatch z)
  have s2 : Ex G (L2.upd H D (.lst zs)) := fun x o hx => by
    rw [upd_ne (ne_of_none hx gD)]
    exact s x o hx
  exact ⟨dx, l, rs, ps, ⟨by rw [upd_ne aD]; exact h1.at_, by rw [upd_ne h5]; exact h1.lst, h2.ex s2, h1.le⟩, h2, h3, h4, h5, h6⟩
theorem HIn.gr {K : PySem.W.Frag} {pp D a : Addr} {Ga Ha Gb Hb : Hp} {bs : Bk} (h : HIn K Ga Ha pp D a bs) (g : Gr none Ga Ha Gb Hb) : HIn K Gb Hb pp D a bs := by
  obtain ⟨dx, l, rs, ps, h1, h2, h3, h4, h5⟩ := h
  exact ⟨dx, l, rs, ps, h1.ex g.e, h2.ex g.g, h3, h4, h5⟩
def sp_law_four_right (K : PySem.W.Frag) : Sp := spN 1 fun vs H Q _ => ∃ (G : Hp) (pp : Addr) (n : Nat), vs = [.ref pp] ∧ Ex G H ∧ G pp = none ∧ PurseAt H pp n ∧ n ≤ 800000 ∧ ∀ G' H', Pu pp (n + 200) G H G' H' → Q (.bl true) H'
abbrev N_law_four_right : List Str := ["_law_purse_here", "_law_names_here", "_law_books", "_law_by", "_law_name", "_law_book_here", "_law_side", "_law_heaps", "_law_mixed", "_law_at", "_law_some", "_law_found"]
theorem sc_law_four_right : FnScope N_law_four_right ["_law_purse_here"] (defScope s_law_four_right) := ⟨rfl, rfl, rfl, by decide +kernel, rfl, by decide +kernel, by decide +kernel⟩
theorem w_law_four_right {P : Program} {w : World} {K : PySem.W.Frag} {mg : Str → Option Value} {base : Heap} (T : Tp K mg) (F_law_all_choices : FnE P w K mg base 6 (He.ga K "_law_all_choices") ["_law_names_here"] [] (sp_law_all_choices K)) (F_law_heap : FnE P w K mg base 4 (He.ga K "_law_heap") ["_law_purse_here", "_law_book_here"] [] (sp_law_heap K)) (F_law_names : FnE P w K mg base 2 (He.ga K "_law_names") ["_law_purse_here", "_law_many"] [] (sp_law_names K)) (F_law_picked : FnE P w K mg base 2 (He.ga K "_law_picked") ["_law_purse_here", "_law_names_here", "_law_many"] [] (sp_law_picked K)) (F_law_shown : FnE P w K mg base 8 (He.ga K "_law_shown") ["_law_book_here", "_law_names_here", "_law_thing"] [] (sp_law_shown K)) (F_law_take : FnE P w K mg base 1 (He.ga K "_law_take") ["_law_purse_here", "_law_many"] [] (sp_law_take K)) (F_lists_of : FnE P w K mg base 9 (He.ga K "lists_of") ["heap", "names"] [] (sp_lists_of K)) : FnE P w K mg base 10 (He.ga K "_law_four_right") ["_law_purse_here"] [] (sp_law_four_right K) := by
  refine fne T.f_law_four_right sc_law_four_right (fun _ _ _ _ h => h.1) (fun _ _ _ _ _ _ us hl => match us, hl with | [_], _ => rfl) fun cdv A outer s H vs Q E hr hsp => ?_
  have nd := sc_law_four_right.nd
  refine ⟨_, (pss_cons (ps_asg (pe_tup (pa_cons (pcall F_law_names (hr.mono (by decide)) T.g_law_names (pa_cons (pv 0) (pa_cons pe_int pa_nil))) (pa_cons (pe_lst (pa_cons pe_dnewK (pa_cons pe_dnewK pa_nil))) (pa_cons (pe_ix (r := rIxL K) ix_list (pe_lst (pa_cons pe_int (pa_cons pe_int (pa_cons pe_int (pa_cons pe_int pa_nil))))) (pcall F_law_take (hr.mono (by decide)) T.g_law_take (pa_cons (pv 0) (pa_cons pe_int pa_nil))) (fun _ _ => rfl)) pa_nil)))) (pg_tup rfl (pgs_cons (pgn 1 nd) (pgs_cons (pgn 2 nd) (pgs_cons (pgn 3 nd) pgs_nil))) : PG _ _ (gTup K _ _)))
      (pss_cons (ps_for PassesOwn.never rfl (pi_list (pv 1) : PI _ _ _ (iList K _)) (pgn 4 nd) (pss_one (ps_for PassesOwn.never rfl (pi_list (pv 2) : PI _ _ _ (iList K _)) (pgn 5 nd) (pss_one (ps_dput (hu_of hr) (pv 5) (pv 4) (pe_lc (own := [("_law_side", 6)]) (g := gName 6) rfl nd (pi_range1 (by rfl) T.z_range (pa_cons pe_int pa_nil)) (blkOk_by (N := N_law_four_right) (sc := defScope s_law_four_right) (by decide +kernel)) (fun _ _ _ _ _ => (pgn 6 nd)) (fun _ _ _ _ _ => pts_nil) (fun _ _ _ _ _ => (pe_op op_mul (pv 3) (pe_op op_add pe_int (pcall F_law_take (hr.mono (by decide)) T.g_law_take (pa_cons (pv 0) (pa_cons pe_int pa_nil))))))) rfl)))))
      (pss_cons (ps_setLc (i := 7) (own := [("_law_book_here", 5)]) (g := gName 5) rfl nd rfl rfl (sw_true rfl rfl rfl (by decide +kernel)) (pi_list (pv 2) : PI _ _ _ (iList K _)) (blkOk_by (N := N_law_four_right) (sc := defScope s_law_four_right) (by decide +kernel)) (fun _ _ _ _ _ => (pgn 5 nd)) (fun _ _ _ _ _ => pts_nil) (fun _ _ _ _ _ => (pcall F_law_heap (hr.mono (by decide)) T.g_law_heap (pa_cons (pv 0) (pa_cons (pv 5) pa_nil)))))
      (pss_cons (pset 8 nd (pcall F_law_picked (hr.mono (by decide)) T.g_law_picked (pa_cons (pv 0) (pa_cons (pv 1) (pa_cons pe_int pa_nil)))))
      (pss_cons (ps_for PassesOwn.never rfl (pi_list (pe_lst (pa_cons (pe_tup (pa_cons pe_int (pa_cons (pv 1) pa_nil))) (pa_cons (pe_tup (pa_cons pe_int (pa_cons (pv 1) pa_nil))) (pa_cons (pe_tup (pa_cons pe_int (pa_cons (pv 8) pa_nil))) (pa_cons (pe_tup (pa_cons pe_int (pa_cons (pv 8) pa_nil))) pa_nil))))) : PI _ _ _ (iList K _)) (pg_tup rfl (pgs_cons (pgn 9 nd) (pgs_cons (pgn 10 nd) pgs_nil)) : PG _ _ (gTup K _ _)) (pss_cons (pset 11 nd (pcall F_lists_of (hr.mono (by decide)) T.g_lists_of (pa_cons (pe_ix (r := rIxL K) ix_list (pv 7) (pv 9) (fun _ _ => rfl)) (pa_cons (pv 10) pa_nil))))
      (pss_one (ps_if (PW.pt (pw_or (pt_not (pt_val (pcall F_law_shown (hr.mono (by decide)) T.g_law_shown (pa_cons (pe_ix (r := rIxL K) ix_list (pv 2) (pv 9) (fun _ _ => rfl)) (pa_cons (pv 10) (pa_cons (pv 11) pa_nil)))))) (pw_or1 (pt_cmpR (r := rNeD K) (op_neD hr.units) (pe_callTy (r := rListDT) (cListDT rfl) (by rfl) T.z_list (by decide +kernel) (pa_cons (pv 11) pa_nil)) (pcall F_law_all_choices (hr.mono (by decide)) T.g_law_all_choices (pa_cons (pv 10) pa_nil)) (nomark _))))) (pss_one (ps_ret pe_bl)) pss_nil))))
      (pss_one (ps_ret pe_bl))))))), ?_⟩
  replace hsp := hsp.2
  obtain ⟨G, pp, n, rfl, s0, pg, ph, hn, q⟩ := hsp
  have P0 : Pu pp n G H G H := Pu.start s0 pg ph
  refine ⟨_, rfl, rfl, G, pp, 4, n, rfl, s0, pg, ph, by omega, by decide, fun ln ns G1 H1 P1 hln nl nN nI => ?_⟩
  intro d1 nd1
  have h01 := P1.free nd1
  have g01 := back P1.gr.s nd1
  have dp1 := P1.ne nd1
  have P2 := P1.put (o := .dK []) h01 g01 dp1
  have B1 : BkIn G1 (upd H1 d1 (.dK [])) d1 ns 0 := ⟨[], [], g01, upd_same, .nil, rfl, fun _ z => by cases z⟩
  generalize upd H1 d1 (.dK []) = H2 at *
  intro d2 nd2
  have h02 := P2.free nd2
  have g02 := back P2.gr.s nd2
  have dp2 := P2.ne nd2
  have d12 : d1 ≠ d2 := by
    obtain ⟨_, _, _, z, _⟩ := B1
    exact ne_of_none z nd2
  have P3 := P2.put (o := .dK []) h02 g02 dp2
  have B2 : BkIn G1 (upd H2 d2 (.dK [])) d2 ns 0 := ⟨[], [], g02, upd_same, .nil, rfl, fun _ z => by cases z⟩
  have B1' := B1.upd (o := .dK []) d12
  generalize upd H2 d2 (.dK []) = H3 at *
  refine ⟨szl (by simp), fun lb nlb => ?_⟩
  have P4 := P3.new (o := .lst [.ref d1, .ref d2]) nlb
  have R4 := (Pu.start P3.gr.s P3.pg P3.ph).new (o := .lst [.ref d1, .ref d2]) nlb
  have hlb : upd G1 lb (.lst [.ref d1, .ref d2]) lb = some (.lst [.ref d1, .ref d2]) := upd_same
  have B14 := B1'.pu R4 dp1
  have B24 := B2.pu R4 dp2
  have hln4 := R4.gr.g _ _ hln
  generalize upd G1 lb (.lst [.ref d1, .ref d2]) = G4 at *
  generalize upd H3 lb (.lst [.ref d1, .ref d2]) = H4 at *
  refine ⟨szl (by simp), fun l4 nl4 => ?_⟩
  have e5 := Ex.new (o := .lst [.int 1, .int 1, .int 13, .int 40]) nl4
  have P5 := P4.exH e5
  have hl4 : upd H4 l4 (.lst [.int 1, .int 1, .int 13, .int 40]) l4 = some (.lst [.int 1, .int 1, .int 13, .int 40]) := upd_same
  have l4p := P4.ne nl4
  refine ⟨_, rfl, rfl, pp, 4, _, rfl, by decide, by decide, P5.ph, by omega, fun d o dd0 dd1 ho => ?_⟩
  have P6 := P5.draw ho
  have R6 := ((Pu.start P4.gr.s P4.pg P4.ph).exH e5).draw ho
  have hl6 : upd (upd H4 l4 (.lst [.int 1, .int 1, .int 13, .int 40])) pp o l4 = some (.lst [.int 1, .int 1, .int 13, .int 40]) := by
    rw [upd_ne l4p]
    exact hl4
  have B16 := B14.pu R6 dp1
  have B26 := B24.pu R6 dp2
  obtain ⟨bY, hbY, by1, by2⟩ : ∃ b, atI [V.int 1, .int 1, .int 13, .int 40] d = some (.int b) ∧ 1 ≤ b ∧ b ≤ 40 := by
    rcases (show d = 0 ∨ d = 1 ∨ d = 2 ∨ d = 3 by omega) with r | r | r | r <;> subst r
    · exact ⟨1, atI_nat (j := 0) rfl, by omega, by omega⟩
    · exact ⟨1, atI_nat (j := 1) rfl, by omega, by omega⟩
    · exact ⟨13, atI_nat (j := 2) rfl, by omega, by omega⟩
    · exact ⟨40, atI_nat (j := 3) rfl, by omega, by omega⟩
  generalize upd (upd H4 l4 (.lst [.int 1, .int 1, .int 13, .int 40])) pp o = H6 at *
  refine ⟨l4, _, d, _, rfl, rfl, sq_of hl6, hbY, szl (by simp), fun tp ntp => ?_⟩
  have e7 := Ex.new (o := .tup [.ref ln, .ref lb, .int bY]) ntp
  refine ⟨tp, _, rfl, st_of upd_same, rfl, _, _, rfl, _, _, rfl, _, _, rfl, rfl, ?_⟩
  have P7 := P6.exH e7
  have R7 := (Pu.start P6.gr.s P6.pg P6.ph).exH e7
  have B17 := B16.pu R7 dp1
  have B27 := B26.pu R7 dp2
  generalize upd H6 tp (.tup [.ref ln, .ref lb, .int bY]) = H7 at *
  have lV : (ns.map V.str).length = ns.length := List.length_map _
  refine ⟨_, rfl, ln, rfl, ⟨_, sq_of (P7.gr.s _ _ hln4)⟩, forE (walk_list (xs := ns.map V.str)) (fun i σ H' => ∃ G' o4 o5, σ = [some (.ref pp), some (.ref ln), some (.ref lb), some (.int bY), o4, o5, none, none, none, none, none, none] ∧ Pu pp (n + 13 + 6 * i) G H G' H' ∧ Ex G4 G' ∧ BkIn G' H' d1 ns i ∧ BkIn G' H' d2 ns i)
    ⟨G4, none, none, rfl, P7.le (by omega), Ex.refl _, B17, B27⟩ (fun i σ H' _ pv => ?_) (fun i z σ Ha Hb N hi pv hy k1 => ?_) fun σ H' pv => ?_⟩
  · obtain ⟨G', _, _, _, p, e, _⟩ := pv
    exact sq_of (p.gr.s _ _ (e _ _ hln4))
  · obtain ⟨Ga, o4, o5, rfl, Pa, ea, Ba1, Ba2⟩ := pv
    obtain ⟨rfl, hy⟩ := hy
    rw [List.getElem?_map] at hy
    obtain ⟨nm, hnm, rfl⟩ := Option.map_eq_some_iff.mp hy
    rw [lV] at hi
    have hlba := Pa.gr.s _ _ (ea _ _ hlb)
    refine ⟨_, rfl, lb, rfl, ⟨_, sq_of hlba⟩, forE (walk_list (xs := [V.ref d1, .ref d2])) (fun j σ H' => ∃ G' o5, σ = [some (.ref pp), some (.ref ln), some (.ref lb), some (.int bY), some (.str nm), o5, none, none, none, none, none, none] ∧ Pu pp (n + 13 + 6 * i + 3 * j) G H G' H' ∧ Ex G4 G' ∧ BkIn G' H' d1 ns (if 0 < j then i + 1 else i) ∧ BkIn G' H' d2 ns (if 1 < j then i + 1 else i))
      ⟨Ga, o5, rfl, Pa, ea, Ba1, Ba2⟩ (fun j σ H' _ pv => ?_) (fun j z σ Hc Hd N2 hj pv hy2 k2 => ?_) fun σ H' pv => ?_⟩
    · obtain ⟨G', _, _, p, e, _⟩ := pv
      exact sq_of (p.gr.s _ _ (e _ _ hlb))
    · obtain ⟨Gc, o5, rfl, Pc, ec, Bc1, Bc2⟩ := pv
      obtain ⟨rfl, hy2⟩ := hy2
      have kd : ∃ e, z = .ref e ∧ e ≠ pp ∧ H e = none ∧ BkIn Gc Hd e ns i ∧ ∀ Gz Hz, Pu pp (n + 13 + 6 * i + 3 * (j + 1)) G H Gz Hz → Ex Gc Gz → BkIn Gz Hz e ns (i + 1) → (∀ x k, x ≠ e → x ≠ pp → BkIn Gc Hd x ns k → BkIn Gz Hz x ns k) → N2 [some (.ref pp), some (.ref ln), some (.ref lb), some (.int bY), some (.str nm), some (.ref e), none, none, none, none, none, none] Hz := by
        rcases (show j = 0 ∨ j = 1 by simp at hj; omega) with r | r <;> subst r <;> cases hy2
        · exact ⟨d1, rfl, dp1, h01, Bc1, fun Gz Hz Pz ez b1 bx => k2 _ _ ⟨Gz, _, rfl, Pz, ec.trans ez, b1, bx d2 _ d12.symm dp2 Bc2⟩⟩
        · exact ⟨d2, rfl, dp2, h02, Bc2, fun Gz Hz Pz ez b1 bx => k2 _ _ ⟨Gz, _, rfl, Pz, ec.trans ez, bx d1 _ d12 dp1 Bc1, b1⟩⟩
      obtain ⟨e, rfl, ep, he0, Be, kd⟩ := kd
      obtain ⟨kvs, bs, gbe, hbe, hbs, hbk, hB⟩ := id Be
      have Rc := Pu.start Pc.gr.s Pc.pg Pc.ph
      refine ⟨_, rfl, by decide, by decide, fun D nD => lcP (m := some pp) (walk_rg (n := 3)) Rc.gr nD Rc.hm (by decide)
        (fun k G4 H4 acc => ∃ xs : List Int, acc = xs.map V.int ∧ xs.length = k ∧ (∀ x ∈ xs, 1 ≤ x ∧ x ≤ 120) ∧ PurseAt H4 pp (n + 13 + 6 * i + 3 * j + k) ∧ G4 pp = none) (fun _ _ _ _ _ _ _ _ => trivial) ⟨[], rfl, rfl, (fun _ z => by cases z), Rc.ph.upd (Rc.ne nD), Rc.pg⟩ (fun k v Ge He acc Hf N3 S3 hk ge ee gD hD hR hyk kk1 kk2 => ?_) fun Ge He acc ge ee gD hD hR => ?_⟩
      · obtain ⟨xs, rfl, xl, xb, pe, pge⟩ := hR
        obtain ⟨rfl, rfl⟩ := hyk
        have Pe : Pu pp (n + 13 + 6 * i + 3 * j + k) _ _ Ge Hf := ⟨ge, pge, pe⟩
        have nDp : D ≠ pp := Rc.ne nD
        refine ⟨rfl, yes (iteT rfl ⟨_, rfl, _, rfl, rfl, pp, 3, _, rfl, by decide, by decide, pe, by simp at hj; omega, fun d o dz0 dz1 ho => ⟨_, _, rfl, rfl, _, _, rfl, rfl, .inr ⟨by omega, by omega⟩, kk1 _ Ge _ (Pe.draw ho).gr ee gD (by rw [upd_ne nDp]; exact hD) ⟨xs ++ [bY * (1 + d)], by rw [List.map_append] <;> rfl, by rw [List.length_append, xl] <;> rfl, fun x hx => ?_, PurseAt.upd (Pe.draw ho).ph nDp, pge⟩⟩⟩)⟩
        rcases List.mem_append.mp hx with hx | hx
        · exact xb x hx
        · rw [List.mem_singleton.mp hx]
          have u1 : bY * (1 + d) ≤ 40 * 3 := Int.mul_le_mul by2 (by omega) (by omega) (by omega)
          have u2 : 1 * 1 ≤ bY * (1 + d) := Int.mul_le_mul by1 (by omega) (by omega) (by omega)
          omega
      · obtain ⟨xs, rfl, xl, xb, pe, pge⟩ := hR
        have nDp : D ≠ pp := Rc.ne nD
        have Pe : Pu pp (n + 13 + 6 * i + 3 * j + 3) _ _ Ge He := ⟨ge, pge, pe⟩
        have Pf := Pe.keep (o := .lst (xs.map V.int)) nD gD hD nDp
        have hbf := Pf.hold ep hbe
        have gbf := Pf.out gbe hbe
        have hv : valV kvs (Sum.inr nm) = none := by
          refine valK_no ?_
          rw [BsAt.keys hbs]
          intro hm
          obtain ⟨c, hc, e⟩ := List.mem_map.mp hm
          have : nm ∈ ns.take i := by
            rw [← hbk, ← Sum.inr.inj e]
            exact List.mem_map_of_mem hc
          exact not_before' nN hnm this
        have lk : kvs.length ≤ 12 := by
          have z1 := congrArg List.length hbk
          rw [List.length_map, List.length_take] at z1
          have z2 : kvs.length = bs.length := hbs.length
          omega
        have pu := DPut.k (v := .ref D) (k := Sum.inr nm) hbf (sz_lt (by omega))
        rw [putK_new _ hv] at pu
        have bx : ∀ x k, x ≠ e → x ≠ pp → BkIn Gc Hd x ns k → BkIn (upd Ge D (.lst (xs.map V.int))) (upd He e (.dK (kvs ++ [(Sum.inr nm, .ref D)]))) x ns k := fun x k xe xp B => (B.pu Pf xp).upd xe
        have Pg := (Pc.trans Pf).put (o := .dK (kvs ++ [(Sum.inr nm, .ref D)])) he0 gbf ep
        have eD := Pf.gr.g
        have hDG : upd Ge D (.lst (xs.map V.int)) D = some (.lst (xs.map V.int)) := upd_same
        generalize upd Ge D (.lst (xs.map V.int)) = Gf at *
        refine ⟨_, rfl, _, rfl, e, _, rfl, pu, kd Gf _ (Pg.le (by omega)) eD ⟨_, bs ++ [(nm, xs)], gbf, upd_same, pr_app (hbs.ex eD) (.cons ⟨rfl, D, rfl, hDG, xl⟩ .nil), ?_, fun c hc w hw => ?_⟩ bx⟩
        · rw [List.map_append, hbk, take_snoc hnm] <;> rfl
        · rcases List.mem_append.mp hc with hc | hc
          · exact hB c hc w hw
          · rw [List.mem_singleton.mp hc] at hw
            exact xb w hw
    · obtain ⟨Gc, o5, rfl, Pc, ec, Bc1, Bc2⟩ := pv
      exact k1 _ _ ⟨Gc, _, _, rfl, Pc.le (by simp; omega), ec, Bc1, Bc2⟩
  · obtain ⟨Ga, o4, o5, rfl, Pa, ea, Ba1, Ba2⟩ := pv
    rw [lV] at Pa Ba1 Ba2
    obtain ⟨kv1, bs1, ga1, hk1, hb1, hn1, hB1⟩ := Ba1
    obtain ⟨kv2, bs2, ga2, hk2, hb2, hn2, hB2⟩ := Ba2
    rw [List.take_length] at hn1 hn2
    have hlba := Pa.gr.s _ _ (ea _ _ hlb)
    have Rc := Pu.start Pa.gr.s Pa.pg Pa.ph
    refine ⟨_, rfl, lb, rfl, ⟨_, sq_of hlba⟩, fun D nD => lcP (m := some pp) (walk_list (xs := [V.ref d1, .ref d2])) Rc.gr nD Rc.hm (sz_lt (by simp))
      (fun k G4 H4 acc => ∃ hs : List Addr, acc = hs.map V.ref ∧ hs.length = k ∧ (∀ a, hs[0]? = some a → HIn K G4 H4 pp D a bs1) ∧ (∀ a, hs[1]? = some a → HIn K G4 H4 pp D a bs2) ∧ PurseAt H4 pp (n + 13 + 6 * ns.length + 36 * k) ∧ G4 pp = none) (fun k G4 H4 acc _ g _ _ => sq_of (g.s _ _ (g.g _ _ (ea _ _ hlb)))) ⟨[], rfl, rfl, (fun _ z => by cases z), (fun _ z => by cases z), Rc.ph.upd (Rc.ne nD), Rc.pg⟩ (fun k v Ge He acc Hf N3 S3 hk ge ee gD hD hR hyk kk1 kk2 => ?_) fun Ge He acc ge ee gD hD hR => ?_⟩
    · obtain ⟨hs, rfl, hl, h0, h1, pe, pge⟩ := hR
      obtain ⟨rfl, hyk⟩ := hyk
      have Pe : Pu pp (n + 13 + 6 * ns.length + 36 * k) _ _ Ge Hf := ⟨ge, pge, pe⟩
      have nDp : D ≠ pp := Rc.ne nD
      have kd : ∃ e kv bs, v = .ref e ∧ e ≠ pp ∧ Ga e = none ∧ H' e = some (.dK kv) ∧ BsAt Ga kv bs ∧ bs.map (·.1) = ns ∧ BookB 120 bs ∧ ∀ a Gz Hz, Pu pp (n + 13 + 6 * ns.length + 36 * k + 36) Ge Hf Gz Hz → HIn K Gz Hz pp D a bs → N3 (.ref a) Hz := by
        have fin : ∀ a Gz Hz, Pu pp (n + 13 + 6 * ns.length + 36 * k + 36) Ge Hf Gz Hz → (∀ b, (hs ++ [a])[0]? = some b → HIn K Gz (upd Hz D (.lst (hs.map V.ref ++ [.ref a]))) pp D b bs1) → (∀ b, (hs ++ [a])[1]? = some b → HIn K Gz (upd Hz D (.lst (hs.map V.ref ++ [.ref a]))) pp D b bs2) → N3 (.ref a) Hz := by
          intro a Gz Hz Pz f0 f1
          have Pt := Pe.trans Pz
          refine kk1 (.ref a) Gz Hz Pt.gr (ee.trans Pz.gr.g) (Pz.out gD hD) (Pz.hold nDp hD) ⟨hs ++ [a], by rw [List.map_append] <;> rfl, by rw [List.length_append, hl] <;> rfl, f0, f1, (Pt.ph.upd nDp), Pt.pg⟩
        rcases (show k = 0 ∨ k = 1 by simp at hk; omega) with r | r <;> subst r <;> cases hyk
        · refine ⟨d1, kv1, bs1, rfl, dp1, ga1, hk1, hb1, hn1, hB1, fun a Gz Hz Pz hz => ?_⟩
          obtain rfl := List.length_eq_zero_iff.mp hl
          exact fin a Gz Hz Pz (fun b hb => by cases hb; exact hz.upd Pz.gr.s (Pz.hold nDp hD) (Pz.out gD hD)) (fun b hb => by cases hb)
        · refine ⟨d2, kv2, bs2, rfl, dp2, ga2, hk2, hb2, hn2, hB2, fun a Gz Hz Pz hz => ?_⟩
          obtain ⟨a0, rfl⟩ : ∃ a0, hs = [a0] := by
            match hs, hl with
            | [a0], _ => exact ⟨a0, rfl⟩
          exact fin a Gz Hz Pz (fun b hb => by cases hb; exact ((h0 _ rfl).pu Pz).upd Pz.gr.s (Pz.hold nDp hD) (Pz.out gD hD)) (fun b hb => by cases hb; exact hz.upd Pz.gr.s (Pz.hold nDp hD) (Pz.out gD hD))
      obtain ⟨e, kv, bs, rfl, ep, ge0, he0, hbe, hne, hBe, kd⟩ := kd
      have bl : bs.length = 4 := by
        have z := congrArg List.length hne
        rw [List.length_map] at z
        omega
      refine ⟨rfl, yes (iteT rfl ⟨_, rfl, _, rfl, rfl, Ge, pp, e, kv, bs, _, rfl, Pe.gr.s, pge, pe, by simp at hk; omega, Pe.hold ep he0, Pe.out ge0 he0, hbe.ex Pe.gr.g, fun b hb x hx => ?_, by rw [hne]; exact nN, by omega, fun b hb => nI _ (by rw [← hne]; exact List.mem_map_of_mem hb), fun a dx l rs ps Gz Hz Pz ha nl' gl hl' hps' en et => kd a Gz Hz Pz ?_⟩)⟩
      · have := hBe b hb x hx
        omega
      · have ap : a ≠ pp := fun z => by
          rw [z, Pz.pg] at ha
          cases ha
        have le : ps.length ≤ 12 := by
          have z := congrArg List.length en
          rw [List.length_map, List.length_map] at z
          omega
        exact ⟨dx, l, rs, ps, ⟨Pz.gr.s _ _ ha, hl', hps'.ex Pz.gr.s, le⟩, hps', Pe.ne nl', ap, (ne_of_none hD nl').symm, en, et⟩
    · obtain ⟨hs, rfl, hl, h0, h1, pe, pge⟩ := hR
      have nDp : D ≠ pp := Rc.ne nD
      have Pe : Pu pp (n + 13 + 6 * ns.length + 36 * 2) _ _ Ge He := ⟨ge, pge, pe⟩
      obtain ⟨a0, a1, rfl⟩ : ∃ a0 a1, hs = [a0, a1] := by
        match hs, hl with
        | [a0, a1], _ => exact ⟨a0, a1, rfl⟩
      have K0 := h0 a0 rfl
      have K1 := h1 a1 rfl
      have Pf := Pa.trans Pe
      have lnF := Pf.gr.g
      have hlnf := Pe.gr.g _ _ (ea _ _ hln4)
      refine ⟨_, rfl, _, rfl, rfl, Ge, pp, ln, ns, 4, n + 13 + 6 * ns.length + 36 * 2, rfl, Pe.gr.s, pge, pe, by omega, hlnf, by omega, by omega, fun lm xs Gm Hm Pm hlm xl hperm => ?_⟩
      obtain ⟨rest, hperm⟩ := hperm
      have hrest : rest = [] := by
        have z := hperm.length_eq
        rw [List.length_append] at z
        exact List.length_eq_zero_iff.mp (by omega)
      rw [hrest, List.append_nil] at hperm
      have M0 := K0.pu Pm
      have M1 := K1.pu Pm
      have Pn := Pf.trans Pm
      have hDm := Pm.hold nDp hD
      have hk1m := (Pe.trans Pm).hold dp1 hk1
      have hk2m := (Pe.trans Pm).hold dp2 hk2
      have hb1m := hb1.ex (Pe.trans Pm).gr.g
      have hb2m := hb2.ex (Pe.trans Pm).gr.g
      have hlnm := Pm.gr.g _ _ hlnf
      have hlbm := (Pe.trans Pm).gr.g _ _ (ea _ _ hlb)
      refine ⟨_, rfl, szl (by simp), fun t1 m1 => ⟨_, rfl, szl (by simp), fun t2 m2 => ⟨_, rfl, szl (by simp), fun t3 m3 => ⟨_, rfl, szl (by simp), fun t4 m4 => ⟨szl (by simp), fun tl ml => ?_⟩⟩⟩⟩⟩
      have eX := ((((Ex.new (o := .tup [.int 0, .ref ln]) m1).trans (Ex.new (o := .tup [.int 1, .ref ln]) m2)).trans (Ex.new (o := .tup [.int 1, .ref lm]) m3)).trans (Ex.new (o := .tup [.int 0, .ref lm]) m4)).trans (Ex.new (o := .lst [.ref t1, .ref t2, .ref t3, .ref t4]) ml)
      have q1 := upk (x := .lst [.ref t1, .ref t2, .ref t3, .ref t4]) (upk (x := .tup [.int 0, .ref lm]) (upk (x := .tup [.int 1, .ref lm]) (upk (x := .tup [.int 1, .ref ln]) (upd_same (H := Hm) (o := .tup [.int 0, .ref ln])) m2) m3) m4) ml
      have q2 := upk (x := .lst [.ref t1, .ref t2, .ref t3, .ref t4]) (upk (x := .tup [.int 0, .ref lm]) (upk (x := .tup [.int 1, .ref lm]) (upd_same (H := upd Hm t1 (.tup [.int 0, .ref ln])) (o := .tup [.int 1, .ref ln])) m3) m4) ml
      have q3 := upk (x := .lst [.ref t1, .ref t2, .ref t3, .ref t4]) (upk (x := .tup [.int 0, .ref lm]) (upd_same (H := upd (upd Hm t1 (.tup [.int 0, .ref ln])) t2 (.tup [.int 1, .ref ln])) (o := .tup [.int 1, .ref lm])) m4) ml
      have q4 := upk (x := .lst [.ref t1, .ref t2, .ref t3, .ref t4]) (upd_same (H := upd (upd (upd Hm t1 (.tup [.int 0, .ref ln])) t2 (.tup [.int 1, .ref ln])) t3 (.tup [.int 1, .ref lm])) (o := .tup [.int 0, .ref lm])) ml
      have ql : upd (upd (upd (upd (upd Hm t1 (.tup [.int 0, .ref ln])) t2 (.tup [.int 1, .ref ln])) t3 (.tup [.int 1, .ref lm])) t4 (.tup [.int 0, .ref lm])) tl (.lst [.ref t1, .ref t2, .ref t3, .ref t4]) tl = some (.lst [.ref t1, .ref t2, .ref t3, .ref t4]) := upd_same
      generalize upd (upd (upd (upd (upd Hm t1 (.tup [.int 0, .ref ln])) t2 (.tup [.int 1, .ref ln])) t3 (.tup [.int 1, .ref lm])) t4 (.tup [.int 0, .ref lm])) tl (.lst [.ref t1, .ref t2, .ref t3, .ref t4]) = Hq at *
      have gq : Gr none Gm Hm Gm Hq := (Gr.start Pn.gr.s).exH eX
      have N0 := M0.gr gq
      have N1 := M1.gr gq
      have hDq := eX _ _ hDm
      have hk1q := eX _ _ hk1m
      have hk2q := eX _ _ hk2m
      refine ⟨tl, rfl, ⟨_, sq_of ql⟩, forE (walk_list (xs := [V.ref t1, .ref t2, .ref t3, .ref t4])) (fun i σ H' => ∃ G' o9 o10 o11, σ = [some (.ref pp), some (.ref ln), some (.ref lb), some (.int bY), o4, o5, none, some (.ref D), some (.ref lm), o9, o10, o11] ∧ Gr none Gm Hq G' H')
        ⟨Gm, none, none, none, rfl, Gr.start (Pn.gr.s.trans eX)⟩ (fun i σ H' _ pv => ?_) (fun i z σ Hy Hz N hi pv hy k1 => ?_) fun σ H' pv => ?_⟩
      · obtain ⟨G', _, _, _, _, g⟩ := pv
        exact sq_of (g.e _ _ ql)
      · obtain ⟨Gz, o9, o10, o11, rfl, gz⟩ := pv
        obtain ⟨rfl, hy⟩ := hy
        have kd : ∃ (tj : Addr) (ax : Nat) (sm : Addr) (nx : List Str) (a e : Addr) (bs : Bk) (kv : List (L2.Key × V)), z = .ref tj ∧ Hq tj = some (.tup [.int (ax : Nat), .ref sm]) ∧ [V.ref a0, .ref a1][ax]? = some (.ref a) ∧ [V.ref d1, .ref d2][ax]? = some (.ref e) ∧ Gm sm = some (.lst (nx.map V.str)) ∧ nx.Perm ns ∧ HIn K Gm Hq pp D a bs ∧ Hq e = some (.dK kv) ∧ BsAt Gm kv bs ∧ bs.map (·.1) = ns ∧ BookB 120 bs := by
          rcases (show i = 0 ∨ i = 1 ∨ i = 2 ∨ i = 3 by simp at hi; omega) with r | r | r | r <;> subst r <;> cases hy
          · exact ⟨t1, 0, ln, ns, a0, d1, bs1, kv1, rfl, q1, rfl, rfl, hlnm, List.Perm.refl _, N0, hk1q, hb1m, hn1, hB1⟩
          · exact ⟨t2, 1, ln, ns, a1, d2, bs2, kv2, rfl, q2, rfl, rfl, hlnm, List.Perm.refl _, N1, hk2q, hb2m, hn2, hB2⟩
          · exact ⟨t3, 1, lm, xs, a1, d2, bs2, kv2, rfl, q3, rfl, rfl, hlm, hperm, N1, hk2q, hb2m, hn2, hB2⟩
          · exact ⟨t4, 0, lm, xs, a0, d1, bs1, kv1, rfl, q4, rfl, rfl, hlm, hperm, N0, hk1q, hb1m, hn1, hB1⟩
        obtain ⟨tj, ax, sm, nx, a, e, bs, kv, rfl, htj, hax, hex, hsm, hnx, hin, hek, hbk, hbn, hbB⟩ := kd
        have hin2 := hin.gr gz
        obtain ⟨dx, l, rs, ps, hh, hps, lp, ap, lD, en, et⟩ := hin2
        have nxl : nx.length = 4 := by rw [hnx.length_eq, nl]
        have nxN : nx.Nodup := hnx.nodup_iff.mpr nN
        have nxI : ∀ x ∈ nx, IsName x := fun x hx => nI x (hnx.subset hx)
        have nxp : ∀ x ∈ nx, x ∈ ps.map (·.name) := fun x hx => by
          rw [en, hbn]
          exact hnx.subset hx
        have nxb : ∀ x ∈ nx, x ∈ bs.map (·.1) := fun x hx => by
          rw [hbn]
          exact hnx.subset hx
        have hs3 : ∀ n ∈ nx, (sidesB bs n).length = 3 := fun n hn => by
          obtain ⟨_, _, _, z⟩ := bs_get hbk (nxb n hn)
          exact z
        have hsm2 : (nx.map (longM ps)).sum ≤ 100000 := by
          have z := long_sum (ps := ps) (B := 120) nx fun n hn => by
            unfold longM
            rw [sides_eq en et]
            exact long_le (hs3 n hn) fun x hx => (sides_in hbB (nxb n hn) x hx).2
          rw [nxl] at z
          omega
        refine ⟨tj, _, rfl, st_of (gz.e _ _ htj), rfl, _, _, rfl, _, _, rfl, rfl, ?_⟩
        refine ⟨_, rfl, _, rfl, D, _, _, _, rfl, rfl, sq_of (gz.e _ _ hDq), atI_nat (j := ax) hax, _, rfl, rfl, Gz, a, dx, l, sm, rs, ps, nx, rfl, gz.s, hh, hps, .inl (gz.g _ _ hsm), by omega, by omega, nxN, nxp, hsm2, fun f kv2 G4 H4 g4 nf gf hf hpt => ?_⟩
        have eL : listsM (sidesOf ps) nx = listsM (sidesB bs) nx := lists_congr fun n _ => sides_eq en et n
        rw [eL] at hpt
        have hsh := shown_of nxN hs3 (by omega)
        generalize papT (listsM (sidesB bs) nx) = pt at *
        have pt4 := hpt.pt g4.s
        have gy := gz.step g4
        have hsm4 := gy.g _ _ hsm
        have hst : ∀ n ∈ nx, PyData.strOk n = true := fun n hn => strOk_name (nxI n hn)
        refine ⟨_, rfl, _, rfl, lb, _, _, _, rfl, rfl, sq_of (gy.s _ _ (gy.g _ _ hlbm)), atI_nat (j := ax) hex, _, rfl, _, rfl, rfl, e, sm, f, kv, bs, nx, kv2, pt, rfl, gy.e _ _ hek, (hbk.ex gy.g).ex gy.s, gy.s _ _ hsm4, by omega, nxN, nxb, hst, hf, pt4, hsh, fun H7 e7 => ⟨_, rfl, iteF (by decide) ?_⟩⟩
        refine ⟨_, rfl, f, kv2, rfl, .inl (e7 _ _ hf), fun p8 as8 np8 hk8 => ?_⟩
        have g8 := (gy.exH e7).exH (Ex.new (o := .lst (as8.map V.ref)) np8)
        have e8 := Ex.new (o := .lst (as8.map V.ref)) np8
        have kk : kv2.map (·.1) = (choicesM nx).map keyM := by
          rw [PapT.keys hpt, ← hsh.keys, List.map_map] <;> rfl
        have shC : PySem.SeqAt.shaped (.list ((choicesM nx).map tupD)) = true := shaped_tups fun c hc x hx => hst x ((mem_choices.mp hc).1.subset hx)
        refine ⟨_, rfl, rfl, G4, sm, nx, rfl, g8.s, hsm4, by omega, fun lc rsc G9 H9 g9 hlc hrc => ⟨.list ((choicesM nx).map tupD), .list ((choicesM nx).map tupD), .lst (sq_of (g9.e _ _ upd_same)) (DpAll.ex (keys_dp hk8 kk) (e8.trans g9.e)), .lst (sq_of (g9.s _ _ hlc)) (ts_dp (hrc.ex g9.s)), shC, shC, _, rfl, ?_⟩⟩
        rw [eqv_tups]
        exact iteF (by decide) (k1 _ _ ⟨G9, _, _, _, rfl, g8.step g9⟩)
      · obtain ⟨Gz, o9, o10, o11, rfl, gz⟩ := pv
        exact q _ _ ((Pn.exH eX).pure gz |>.le (by omega))
end BX
/-! for the walk of the law: a heap with its book, kept through the steps -/
namespace BX
open PySem PySem.Spec PyProof.Rows L2
theorem four_three {i : Nat} {σ : L2.St} {H : Hp} {R : V → Hp → Prop} (hσ : σ[1]? = some (some (.int (i : Nat)))) (k : ∀ m : Int, 3 ≤ m → m ≤ 4 → R (.int m) H) : tIf (tTest (tOp rEq (tVar 1) (tC (.int 0)))) (tC (.int 4)) (tC (.int 3)) σ H R := by
  refine ⟨_, hσ, rfl, _, rfl, ?_⟩
  cases decide (V.int (i : Nat) = V.int 0) with
  | true => exact iteT rfl (k 4 (by decide) (by decide))
  | false => exact iteF (by decide) (k 3 (by decide) (by decide))
theorem sides_mem {ps : List Pcl} (hN : (ps.map (·.name)).Nodup) {q : Pcl} (hq : q ∈ ps) : sidesOf ps q.name = q.three := by
  obtain ⟨p, hp, e⟩ := of_name (List.mem_map_of_mem (f := fun p : Pcl => p.name) hq)
  obtain ⟨j, hj, ej⟩ := List.mem_iff_getElem.mp hq
  obtain ⟨hi, ei⟩ := List.getElem?_eq_some_iff.mp hp
  have pw := List.pairwise_iff_getElem.mp hN
  have same : (ps.map (·.name)).idxOf q.name = j := by
    rcases Nat.lt_trichotomy ((ps.map (·.name)).idxOf q.name) j with z | z | z
    · refine absurd ?_ (pw _ j (by rw [List.length_map]; exact hi) (by rw [List.length_map]; exact hj) z)
      rw [List.getElem_map, List.getElem_map, ei, ej, e]
    · exact z
    · refine absurd ?_ (pw j _ (by rw [List.length_map]; exact hj) (by rw [List.length_map]; exact hi) z)
      rw [List.getElem_map, List.getElem_map, ei, ej, e]
  unfold sidesOf
  rw [same, List.getElem?_eq_getElem hj, ej] <;> rfl
theorem sidesB_put {nm : Str} {xs : List Int} (n : Str) : ∀ {bs : Bk}, n ∈ bs.map (·.1) → sidesB (bs.map fun b => if b.1 = nm then (b.1, xs) else b) n = if n = nm then xs else sidesB bs n
  | [], h => by cases h
  | b :: bs, h => by
    have cons : ∀ (c : Str × List Int) (cs : Bk), sidesB (c :: cs) n = if c.1 = n then c.2 else sidesB cs n := fun c cs => by
      unfold sidesB
      rw [List.find?_cons]
      by_cases e : c.1 = n <;> simp [e]
    rw [List.map_cons, cons, cons]
    by_cases e : b.1 = n
    · by_cases e2 : n = nm
      · have e3 : b.1 = nm := e.trans e2
        rw [if_pos e3, if_pos e, if_pos e2]
      · have e3 : ¬ b.1 = nm := fun z => e2 (e.symm.trans z)
        rw [if_neg e3, if_pos e, if_neg e2, if_pos e]
    · have h2 : n ∈ bs.map (·.1) := by
        rcases List.mem_cons.mp h with z | z
        · exact absurd z.symm e
        · exact z
      have e4 : (if b.1 = nm then (b.1, xs) else b).1 = b.1 := by split <;> rfl
      rw [e4, if_neg e, if_neg e]
      exact sidesB_put n h2
/-- a heap and its book -/
structure Kept (K : PySem.W.Frag) (G H : Hp) (pp a dx l bk : Addr) (rs : List Addr) (ps : List Pcl) (kvb : List (L2.Key × V)) (bs : Bk) (hs : List Str) (cap : Int) : Prop where
  hh : HeapIn K H a dx l rs ps
  hps : PsAt K G rs ps
  ha : G a = some (.ins (cH K) dx [("held", .ref l)])
  gl : G l = none
  lp : l ≠ pp
  ap : a ≠ pp
  hbk : H bk = some (.dK kvb)
  gbk : G bk = none
  bp : bk ≠ pp
  hbs : BsAt G kvb bs
  pn : (ps.map (·.name)).Perm hs
  bn : bs.map (·.1) = hs
  se : ∀ n ∈ hs, sidesOf ps n = sidesB bs n
  bb : BookB cap bs
section
variable {K : PySem.W.Frag} {G H G1 H1 : Hp} {pp a dx l bk : Addr} {rs : List Addr} {ps : List Pcl} {kvb : List (L2.Key × V)} {bs : Bk} {hs : List Str} {cap : Int} {n : Nat}
theorem Kept.pu (h : Kept K G H pp a dx l bk rs ps kvb bs hs cap) (P : Pu pp n G H G1 H1) : Kept K G1 H1 pp a dx l bk rs ps kvb bs hs cap :=
  ⟨h.hh.pu P h.hps h.ap h.lp, h.hps.ex P.gr.g, P.gr.g _ _ h.ha, P.out h.gl h.hh.lst, h.lp, h.ap, P.hold h.bp h.hbk, P.out h.gbk h.hbk, h.bp, h.hbs.ex P.gr.g, h.pn, h.bn, h.se, h.bb⟩
theorem Kept.gr (h : Kept K G H pp a dx l bk rs ps kvb bs hs cap) (g : Gr none G H G1 H1) : Kept K G1 H1 pp a dx l bk rs ps kvb bs hs cap :=
  ⟨h.hh.ex g.e, h.hps.ex g.g, g.g _ _ h.ha, g.out h.gl h.hh.lst, h.lp, h.ap, g.e _ _ h.hbk, g.out h.gbk h.hbk, h.bp, h.hbs.ex g.g, h.pn, h.bn, h.se, h.bb⟩
theorem Kept.sum (h : Kept K G H pp a dx l bk rs ps kvb bs hs cap) {nx : List Str} (hsub : ∀ x ∈ nx, x ∈ hs) (hcap : (nx.length : Nat) * cap ≤ 100000) : (nx.map (longM ps)).sum ≤ 100000 := by
  have z := long_sum (ps := ps) (B := cap) nx fun n hn => by
    have hb : n ∈ bs.map (·.1) := by
      rw [h.bn]
      exact hsub n hn
    obtain ⟨_, _, _, z⟩ := bs_get h.hbs hb
    unfold longM
    rw [h.se n (hsub n hn)]
    exact long_le z fun x hx => (sides_in h.bb hb x hx).2
  omega
theorem Kept.ask (h : Kept K G H pp a dx l bk rs ps kvb bs hs cap) {sm : Addr} {nx : List Str} (hsm : G sm = some (.lst (nx.map V.str))) (hN : nx.Nodup) (hsub : ∀ x ∈ nx, x ∈ hs) (n1 : 1 ≤ nx.length) (n4 : nx.length ≤ 4) (hcap : (nx.length : Nat) * cap ≤ 100000) (hI : ∀ x ∈ hs, IsName x) :
    AskIn K G H pp a dx l bk sm rs ps kvb bs nx :=
  ⟨h.hh, h.hps, h.lp, h.hbk, h.hbs, hsm, n1, n4, hN, fun x hx => h.pn.symm.subset (hsub x hx), fun x hx => by rw [h.bn]; exact hsub x hx, fun x hx => h.se x (hsub x hx), h.sum hsub hcap, fun x hx => strOk_name (hI x (hsub x hx))⟩
theorem Kept.repl {bk2 : Addr} {kv2 : List (L2.Key × V)} {rs2 : List Addr} {p : Pcl} {ts : Bk} {nm : Str} (h : Kept K G H pp a dx l bk rs ps kvb bs hs cap) (g : Gr (some l) G H G1 H1) (hN : hs.Nodup) (hnm : nm ∈ hs) (tn : ts.map (·.1) = hs) (tb : BookB cap ts)
    (gl1 : G1 l = none) (hl1 : H1 l = some (.lst (rs2.map V.ref))) (hps1 : PsAt K G1 rs2 (ps.eraseIdx ((ps.map (·.name)).idxOf nm) ++ [p])) (pn : p.name = nm) (pt : p.three = sidesB ts nm) (b2p : bk2 ≠ pp) (gb2 : G1 bk2 = none) (hb2 : H1 bk2 = some (.dK kv2))
    (hbs2 : BsAt G1 kv2 (bs.map fun b => if b.1 = nm then (b.1, sidesB ts nm) else b)) : Kept K G1 H1 pp a dx l bk2 rs2 (ps.eraseIdx ((ps.map (·.name)).idxOf nm) ++ [p]) kv2 (bs.map fun b => if b.1 = nm then (b.1, sidesB ts nm) else b) hs cap := by
  have al : a ≠ l := ne_of h.hh.at_ h.hh.lst (fun z => nomatch z)
  obtain ⟨p0, hp0, e0⟩ := of_name (h.pn.symm.subset hnm)
  have pm := erase_perm hp0
  have len : (ps.eraseIdx ((ps.map (·.name)).idxOf nm) ++ [p]).length = ps.length := by
    have z := pm.length_eq
    rw [List.length_cons] at z
    rw [List.length_append]
    exact z
  have pm2 : ((ps.eraseIdx ((ps.map (·.name)).idxOf nm) ++ [p]).map (·.name)).Perm hs := by
    refine List.Perm.trans ?_ h.pn
    have z := pm.map (·.name)
    rw [List.map_cons, e0] at z
    rw [List.map_append, List.map_cons, List.map_nil, pn]
    exact (List.perm_append_comm (l₁ := (ps.eraseIdx ((ps.map (fun p : Pcl => p.name)).idxOf nm)).map (fun p : Pcl => p.name)) (l₂ := [nm])).trans z
  have nd1 := h.pn.nodup_iff.mpr hN
  have nd2 := pm2.nodup_iff.mpr hN
  refine ⟨⟨g.h _ _ (fun z => al (Option.some.inj z).symm) h.hh.at_, hl1, hps1.ex g.s, by rw [len]; exact h.hh.le⟩, hps1, g.g _ _ h.ha, gl1, h.lp, h.ap, hb2, gb2, b2p, hbs2, pm2, by rw [bs_put_keys]; exact h.bn, fun n hn => ?_, bs_put_B h.bb fun x hx => sides_in tb (by rw [tn]; exact hnm) x hx⟩
  rw [sidesB_put n (by rw [h.bn]; exact hn)]
  by_cases e : n = nm
  · rw [if_pos e, e, ← pt]
    have z := sides_mem nd2 (q := p) (List.mem_append_right _ (List.mem_singleton.mpr rfl))
    rw [pn] at z
    exact z
  · rw [if_neg e, ← h.se n hn]
    obtain ⟨q, hq, eq⟩ := List.mem_map.mp (h.pn.symm.subset hn)
    have hq2 : q ∈ ps.eraseIdx ((ps.map (·.name)).idxOf nm) := by
      rcases List.mem_cons.mp (pm.symm.subset hq) with z | z
      · exact absurd (by rw [← eq, z]; exact e0) e
      · exact z
    have z1 := sides_mem nd1 hq
    have z2 := sides_mem nd2 (List.mem_append_left [p] hq2)
    rw [← eq, z2]
    exact z1.symm
theorem cap_le {k m : Nat} (h : k ≤ m) (h1 : 1 ≤ m) (h4 : m ≤ 4) : (k : Nat) * capM m ≤ 100000 := by
  rcases (show m = 1 ∨ m = 2 ∨ m = 3 ∨ m = 4 by omega) with r | r | r | r <;> subst r
  · have e : capM 1 = 100000 := by decide
    rw [e]
    omega
  · have e : capM 2 = 50000 := by decide
    rw [e]
    omega
  · have e : capM 3 = 33333 := by decide
    rw [e]
    omega
  · have e : capM 4 = 25000 := by decide
    rw [e]
    omega
theorem cap_top {m : Nat} (h1 : 1 ≤ m) (h4 : m ≤ 4) : capM m ≤ 100000 := by
  rcases (show m = 1 ∨ m = 2 ∨ m = 3 ∨ m = 4 by omega) with r | r | r | r <;> subst r <;> decide
/-! ### the conditions -/
theorem lt_four {σ : L2.St} {i : Nat} {m : Int} {R : Bool → Hp → Prop} (hσ : σ[i]? = some (some (.int m))) (h : R (decide (m < 4)) H) : tTest (tOp (rI0 fun i j => V.bl (decide (i < j))) (tVar i) (tC (.int 4))) σ H R := ⟨_, hσ, _, _, rfl, rfl, _, rfl, h⟩
theorem len_four {σ : L2.St} {i : Nat} {t : Addr} {xs : List V} {R : Bool → Hp → Prop} (hσ : σ[i]? = some (some (.ref t))) (ht : H t = some (.lst xs)) (h : R (decide (((xs.length : Nat) : Int) < 4)) H) : tTest (tOp (rI0 fun i j => V.bl (decide (i < j))) (tCB (rLenQ K) (tCons (tVar i) tNil)) (tC (.int 4))) σ H R :=
  ⟨_, hσ, t, _, rfl, .inl (sq_of ht), _, _, rfl, rfl, _, rfl, h⟩
theorem if_right {tt : TT} {b : Bool} {D : Ends} {σ : L2.St} {sm : Addr} {nx : List Str} {i8 i6 i5 : Nat} (ht : ∀ R, R b H → tt σ H R) (h2 : σ[2]? = some (some (.ref pp))) (h8 : σ[i8]? = some (some (.ref a))) (h6 : σ[i6]? = some (some (.ref bk))) (h5 : σ[i5]? = some (some (.ref sm)))
    (s : Ex G H) (pg : G pp = none) (ph : PurseAt H pp n) (hn : n ≤ 800000) (A : b = true → AskIn K G H pp a dx l bk sm rs ps kvb bs nx) (k : ∀ G' H', Pu pp (n + 80) G H G' H' → D.nx σ H') :
    tIfS (tAnd tt (tNot (tB (tCall (sp_law_right K) [] E0 (tCons (tVar 2) (tCons (tVar i8) (tCons (tVar i6) (tCons (tVar i5) tNil)))))))) (tRet (tC (.bl false))) tNext D σ H := by
  refine ht _ ?_
  cases b with
  | false => exact iteF (by decide) (iteF (by decide) (k G H ((Pu.start s pg ph).le (by omega))))
  | true => exact iteT rfl ⟨_, h2, _, h8, _, h6, _, h5, rfl, G, pp, a, dx, l, bk, sm, rs, ps, kvb, bs, nx, n, rfl, s, pg, ph, hn, A rfl, fun G' H' P => ⟨_, rfl, iteF (by decide) (k G' H' P)⟩⟩
theorem if_again {tt : TT} {b : Bool} {D : Ends} {σ : L2.St} {t : Addr} {ns : List Str} (ht : ∀ R, R b H → tt σ H R) (h8 : σ[8]? = some (some (.ref a))) (h5 : σ[5]? = some (some (.ref t)))
    (s : Ex G H) (A : b = true → HeapIn K H a dx l rs ps ∧ PsAt K G rs ps ∧ G t = some (.lst (ns.map V.str)) ∧ 1 ≤ ns.length ∧ ns.length ≤ 3 ∧ ns.Nodup ∧ (∀ n ∈ ns, n ∈ ps.map (·.name)) ∧ (ns.map (longM ps)).sum ≤ 100000 ∧ (∀ n ∈ ns, IsName n)) (k : ∀ G' H', Gr none G H G' H' → D.nx σ H') :
    tIfS (tAnd tt (tNot (tB (tCall (sp_law_again K) [] E0 (tCons (tVar 8) (tCons (tVar 5) tNil)))))) (tRet (tC (.bl false))) tNext D σ H := by
  refine ht _ ?_
  cases b with
  | false => exact iteF (by decide) (iteF (by decide) (k G H (Gr.start s)))
  | true =>
    obtain ⟨a1, a2, a3, a4, a5, a6, a7, a8, a9⟩ := A rfl
    exact iteT rfl ⟨_, h8, _, h5, rfl, G, a, dx, l, t, rs, ps, ns, rfl, s, a1, a2, a3, a4, a5, a6, a7, a8, a9, fun G' H' P => ⟨_, rfl, iteF (by decide) (k G' H' P)⟩⟩
end
end BX
/-! the walks: the law -/
namespace BX
open PySem PySem.Spec PyProof.Rows L2
theorem iteB {b : Bool} {p q : Prop} (h1 : p) (h2 : q) : if b = true then p else q := by
  cases b
  · exact iteF (by decide) h2
  · exact iteT rfl h1
def sp_law (K : PySem.W.Frag) : Sp := fun vs H Q _ => ∃ (a : Addr) (ns : List Int), vs = [.ref a] ∧ SqL K H a (ns.map V.int) ∧ ns.length ≤ 63 ∧ ∀ H', Q (.bl true) H'
abbrev N_law : List Str := ["_law_script", "_law_k", "_law_purse_here", "_law_many", "_law_held_here", "_law_names_here", "_law_book_here", "_law_twin", "_law_kept", "_law_other", "_law_others", "_law_some"]
theorem sc_law : FnScope N_law ["_law_script"] (defScope s_law) := ⟨rfl, rfl, rfl, by decide +kernel, rfl, by decide +kernel, by decide +kernel⟩
theorem w_law {P : Program} {w : World} {K : PySem.W.Frag} {mg : Str → Option Value} {base : Heap} (T : Tp K mg) (F_Heap_names : FnE P w K mg base 2 (He.ma K (He.ga K "Heap") "names") ["self"] [] (sp_Heap_names K)) (F_law_again : FnGE P w K mg base 10 (He.ga K "_law_again") ["_law_kept", "_law_names_here"] (sp_law_again K)) (F_law_book : FnE P w K mg base 3 (He.ga K "_law_book") ["_law_purse_here", "_law_held_here", "_law_names_here"] [] (sp_law_book K)) (F_law_cell : FnE P w K mg base 1 (He.ga K "_law_cell") ["_law_script", "_law_k"] [] (sp_law_cell K)) (F_law_four_right : FnE P w K mg base 10 (He.ga K "_law_four_right") ["_law_purse_here"] [] (sp_law_four_right K)) (F_law_heap : FnE P w K mg base 4 (He.ga K "_law_heap") ["_law_purse_here", "_law_book_here"] [] (sp_law_heap K)) (F_law_names : FnE P w K mg base 2 (He.ga K "_law_names") ["_law_purse_here", "_law_many"] [] (sp_law_names K)) (F_law_picked : FnE P w K mg base 2 (He.ga K "_law_picked") ["_law_purse_here", "_law_names_here", "_law_many"] [] (sp_law_picked K)) (F_law_purse : FnE P w K mg base 1 (He.ga K "_law_purse") ["_law_cell_here"] [] (sp_law_purse K)) (F_law_replaced : FnE P w K mg base 4 (He.ga K "_law_replaced") ["_law_kept", "_law_book_here", "_law_twin", "_law_name"] [] (sp_law_replaced K)) (F_law_right : FnE P w K mg base 10 (He.ga K "_law_right") ["_law_purse_here", "_law_kept", "_law_book_here", "_law_names_here"] [] (sp_law_right K)) (F_law_take : FnE P w K mg base 1 (He.ga K "_law_take") ["_law_purse_here", "_law_many"] [] (sp_law_take K)) : ∀ fd, FunD K "law" "law" (defArgs s_law) (defBody s_law) (defScope s_law) [] [] (He.ga K "law") fd → FnG P w K mg base 11 (He.ga K "law") fd ["_law_script"] (sp_law K) := by
  intro fd FD
  refine fng FD sc_law (fun _ _ _ _ h => by obtain ⟨_, _, rfl, _⟩ := h; rfl) fun cdv A outer s H vs Q E hgd hr hsp => ?_
  have nd := sc_law.nd
  refine ⟨_, (pss_cons (ps_for PassesOwn.never rfl (pi_range1 (by rfl) T.z_range (pa_cons (pe_callB (r := rMax2) (cMax2 rfl) (by rfl) T.z_max (by decide +kernel) (pa_cons pe_int (pa_cons (pe_callB (r := rMin2) (cMin2 rfl) (by rfl) T.z_min (by decide +kernel) (pa_cons pe_int (pa_cons (pe_callB (r := rLenQ K) cLenQ (by rfl) T.z_len (by decide +kernel) (pa_cons (pv 0) pa_nil)) pa_nil))) pa_nil))) pa_nil)) (pgn 1 nd) (pss_cons (pset 2 nd (pcall F_law_purse (hr.mono (by decide)) T.g_law_purse (pa_cons (pcall F_law_cell (hr.mono (by decide)) T.g_law_cell (pa_cons (pv 0) (pa_cons (pv 1) pa_nil))) pa_nil)))
      (pss_cons (pset 3 nd (pe_op op_add pe_int (pcall F_law_take (hr.mono (by decide)) T.g_law_take (pa_cons (pv 2) (pa_cons (pe_ifExp (pt_cmpR op_eq (pv 1) pe_int (nomark _)) pe_int pe_int) pa_nil)))))
      (pss_cons (pset 4 nd (pcall F_law_names (hr.mono (by decide)) T.g_law_names (pa_cons (pv 2) (pa_cons (pe_op op_add pe_int (pe_ix (r := rIxL K) ix_list (pe_lst (pa_cons pe_int (pa_cons (pcall F_law_take (hr.mono (by decide)) T.g_law_take (pa_cons (pv 2) (pa_cons pe_int pa_nil))) pa_nil))) (pcall F_law_take (hr.mono (by decide)) T.g_law_take (pa_cons (pv 2) (pa_cons pe_int pa_nil))) (fun _ _ => rfl))) pa_nil))))
      (pss_cons (pset 5 nd (pcall F_law_picked (hr.mono (by decide)) T.g_law_picked (pa_cons (pv 2) (pa_cons (pv 4) (pa_cons (pv 3) pa_nil)))))
      (pss_cons (ps_par (i := 6) (j := 7) (by rfl) nd rfl rfl (by decide) rfl rfl (pa_cons (pcall F_law_book (hr.mono (by decide)) T.g_law_book (pa_cons (pv 2) (pa_cons (pv 4) (pa_cons (pv 5) pa_nil)))) (pa_cons (pcall F_law_book (hr.mono (by decide)) T.g_law_book (pa_cons (pv 2) (pa_cons (pv 4) (pa_cons (pv 5) pa_nil)))) pa_nil)) (by rfl))
      (pss_cons (ps_par (i := 8) (j := 9) (by rfl) nd rfl rfl (by decide) rfl rfl (pa_cons (pcall F_law_heap (hr.mono (by decide)) T.g_law_heap (pa_cons (pv 2) (pa_cons (pv 6) pa_nil))) (pa_cons (pcall F_law_heap (hr.mono (by decide)) T.g_law_heap (pa_cons (pv 2) (pa_cons (pv 7) pa_nil))) pa_nil)) (by rfl))
      (pss_cons (ps_if (PW.pt (pw_or (pt_not (pt_val (pcall F_law_right (hr.mono (by decide)) T.g_law_right (pa_cons (pv 2) (pa_cons (pv 8) (pa_cons (pv 6) (pa_cons (pv 5) pa_nil))))))) (pw_or1 (pt_cmpR (r := rNeD K) (op_neD hr.units) (pmeth0 (pv 8) T.c_Heap T.m_Heap_names F_Heap_names (hr.mono (by decide))) (pv 4) (nomark _))))) (pss_one (ps_ret pe_bl)) pss_nil)
      (pss_cons (pset 10 nd (pcall F_law_picked (hr.mono (by decide)) T.g_law_picked (pa_cons (pv 2) (pa_cons (pv 4) (pa_cons (pe_op op_add pe_int (pcall F_law_take (hr.mono (by decide)) T.g_law_take (pa_cons (pv 2) (pa_cons (pe_callB (r := rMin2) (cMin2 rfl) (by rfl) T.z_min (by decide +kernel) (pa_cons (pv 3) (pa_cons pe_int pa_nil))) pa_nil)))) pa_nil)))))
      (pss_cons (ps_for PassesOwn.never rfl (pi_tup (pe_tup (pa_cons (pv 10) (pa_cons (pe_revL (pv 5) : PE _ _ (tRevL K _)) (pa_cons (pv 5) (pa_cons (pv 10) pa_nil))))) : PI _ _ _ (iTup K _)) (pgn 11 nd) (pss_one (ps_if (PW.pt (pw_and (pt_cmpR op_lt (pe_callB (r := rLenQ K) cLenQ (by rfl) T.z_len (by decide +kernel) (pa_cons (pv 11) pa_nil)) pe_int (nomark _)) (pw_and1 (pt_not (pt_val (pcall F_law_right (hr.mono (by decide)) T.g_law_right (pa_cons (pv 2) (pa_cons (pv 8) (pa_cons (pv 6) (pa_cons (pv 11) pa_nil)))))))))) (pss_one (ps_ret pe_bl)) pss_nil)))
      (pss_cons (ps_if (PW.pt (pw_and (pt_cmpR op_lt (pv 3) pe_int (nomark _)) (pw_and1 (pt_not (pt_val (pcall F_law_right (hr.mono (by decide)) T.g_law_right (pa_cons (pv 2) (pa_cons (pv 9) (pa_cons (pv 7) (pa_cons (pv 5) pa_nil)))))))))) (pss_one (ps_ret pe_bl)) pss_nil)
      (pss_cons (ps_if (PW.pt (pw_and (pt_cmpR op_lt (pv 3) pe_int (nomark _)) (pw_and1 (pt_not (pt_val (pcallGE F_law_again hgd (hr.mono (by decide)) T.g_law_again (pa_cons (pv 8) (pa_cons (pv 5) pa_nil)))))))) (pss_one (ps_ret pe_bl)) pss_nil)
      (pss_cons (pset 6 nd (pcall F_law_replaced (hr.mono (by decide)) T.g_law_replaced (pa_cons (pv 8) (pa_cons (pv 6) (pa_cons (pv 7) (pa_cons (pe_ix (r := rIxL K) ix_list (pv 5) (pcall F_law_take (hr.mono (by decide)) T.g_law_take (pa_cons (pv 2) (pa_cons (pv 3) pa_nil))) (fun _ _ => rfl)) pa_nil))))))
      (pss_cons (ps_if (PW.pt (pw_and (pt_cmpR op_lt (pv 3) pe_int (nomark _)) (pw_and1 (pt_not (pt_val (pcall F_law_right (hr.mono (by decide)) T.g_law_right (pa_cons (pv 2) (pa_cons (pv 8) (pa_cons (pv 6) (pa_cons (pv 5) pa_nil)))))))))) (pss_one (ps_ret pe_bl)) pss_nil)
      (pss_one (ps_if (PW.pt (pw_and (pt_cmpR op_eq (pv 1) pe_int (nomark _)) (pw_and (pt_cmpR op_eq (pcall F_law_take (hr.mono (by decide)) T.g_law_take (pa_cons (pv 2) (pa_cons pe_int pa_nil))) pe_int (nomark _)) (pw_and1 (pt_not (pt_val (pcall F_law_four_right (hr.mono (by decide)) T.g_law_four_right (pa_cons (pv 2) pa_nil)))))))) (pss_one (ps_ret pe_bl)) pss_nil))))))))))))))))
      (pss_one (ps_ret pe_bl))), ?_⟩
  obtain ⟨sa, sns, rfl, hS, s63, q⟩ := hsp
  have hM : ∀ L : Nat, ∃ M : Nat, (if (if (L : Int) < 5 then (L : Int) else 5) > 2 then (if (L : Int) < 5 then (L : Int) else 5) else 2) = ((M : Nat) : Int) ∧ M ≤ 5 := fun L => by
    by_cases h : (L : Int) < 5
    · rw [if_pos h]
      by_cases h2 : (L : Int) > 2
      · rw [if_pos h2]
        exact ⟨L, rfl, by omega⟩
      · rw [if_neg h2]
        exact ⟨2, rfl, by decide⟩
    · rw [if_neg h, if_pos (by decide)]
      exact ⟨5, rfl, by decide⟩
  refine ⟨_, rfl, sa, _, rfl, .inl hS, _, _, rfl, _, _, rfl, ?_⟩
  obtain ⟨M, hM1, hM5⟩ := hM (sns.map V.int).length
  rw [hM1]
  refine ⟨_, rfl, by omega, by omega, ?_⟩
  rw [Int.toNat_natCast]
  refine forE (walk_rg (n := M)) (fun i σ H' => SqL K H' sa (sns.map V.int) ∧ ∃ o1 o2 o3 o4 o5 o6 o7 o8 o9 o10 o11, σ = [some (.ref sa), o1, o2, o3, o4, o5, o6, o7, o8, o9, o10, o11]) ⟨hS, none, none, none, none, none, none, none, none, none, none, none, rfl⟩ (fun _ _ _ _ _ => trivial) (fun i z σ Ha H1 N hi pv hz k1 => ?_) fun σ H' pv => ?_
  · obtain ⟨hS1, o1, o2, o3, o4, o5, o6, o7, o8, o9, o10, o11, rfl⟩ := pv
    obtain ⟨rfl, rfl⟩ := hz
    refine ⟨_, rfl, _, rfl, rfl, sa, sns, i, rfl, hS1, fun c => ⟨rfl, c, rfl, fun pp o npp ho => ?_⟩⟩
    have P0 : Pu pp 0 H1 (upd H1 pp o) H1 (upd H1 pp o) := Pu.start (Ex.new npp) npp ⟨o, upd_same, ho⟩
    generalize upd H1 pp o = H2 at *
    -- how many
    refine ⟨_, rfl, four_three (i := i) rfl fun m3 m31 m32 => ⟨rfl, pp, m3, 0, rfl, by omega, by omega, P0.ph, by omega, fun d o d0 d1 ho1 => ⟨_, _, rfl, rfl, ?_⟩⟩⟩
    have P1 := P0.draw ho1
    generalize upd H2 pp o = H3 at *
    obtain ⟨mN, hmN⟩ : ∃ mN : Nat, 1 + d = ((mN : Nat) : Int) := ⟨(1 + d).toNat, by omega⟩
    have mN1 : 1 ≤ mN := by omega
    have mN4 : mN ≤ 4 := by omega
    -- the names held
    refine ⟨_, rfl, _, rfl, rfl, pp, 7, 1, rfl, by decide, by decide, P1.ph, by omega, fun d7 o7 a0 a1 ho7 => ⟨szl (by simp), fun l7 nl7 => ⟨_, rfl, rfl, pp, 2, 2, rfl, by decide, by decide, ((P1.draw ho7).exH (Ex.new nl7)).ph, by omega, fun d2 o2 b0 b1 ho2 => ?_⟩⟩⟩
    have P4 := ((P1.draw ho7).exH (Ex.new (o := .lst [.int 0, .int d7]) nl7)).draw ho2
    have hl7 : upd (upd (upd H3 pp o7) l7 (.lst [.int 0, .int d7])) pp o2 l7 = some (.lst [.int 0, .int d7]) := by
      rw [upd_ne ((P1.draw ho7).ne nl7), upd_same]
    generalize upd (upd (upd H3 pp o7) l7 (.lst [.int 0, .int d7])) pp o2 = H4 at *
    obtain ⟨x, hx, x0, x6⟩ : ∃ x, atI [V.int 0, .int d7] d2 = some (.int x) ∧ 0 ≤ x ∧ x ≤ 6 := by
      rcases (show d2 = 0 ∨ d2 = 1 by omega) with r | r <;> subst r
      · exact ⟨0, atI_nat (j := 0) rfl, by omega, by omega⟩
      · exact ⟨d7, atI_nat (j := 1) rfl, by omega, by omega⟩
    refine ⟨l7, _, d2, _, rfl, rfl, sq_of hl7, hx, _, _, rfl, rfl, rfl, H1, pp, (6 + x).toNat, 3, ?_, P4.gr.s, P4.pg, P4.ph, by omega, by omega, fun lh hs G5 H5 P5 hlh hl hN hI => ?_⟩
    · show [V.ref pp, V.int (6 + x)] = [V.ref pp, V.int (((6 + x).toNat : Nat) : Int)]
      rw [show (((6 + x).toNat : Nat) : Int) = 6 + x by omega]
    have hl6 : 6 ≤ hs.length := by omega
    have hl12 : hs.length ≤ 12 := by omega
    have eX5 := P5.gr.g
    -- the names asked
    refine ⟨_, rfl, _, rfl, _, rfl, rfl, G5, pp, lh, hs, mN, 15, ?_, P5.gr.s, P5.pg, P5.ph, by omega, hlh, hl12, by omega, fun ln ns G6 H6 P6 hln nl hperm => ?_⟩
    · show [V.ref pp, V.ref lh, V.int (1 + d)] = [V.ref pp, V.ref lh, V.int ((mN : Nat) : Int)]
      rw [hmN]
    obtain ⟨rest, hperm⟩ := hperm
    have nN : ns.Nodup := (List.nodup_append.mp (hperm.nodup_iff.mpr hN)).1
    have nsub : ∀ x ∈ ns, x ∈ hs := fun x hx => hperm.subset (List.mem_append_left _ hx)
    have hlh6 := P6.gr.g _ _ hlh
    have eX6 := eX5.trans P6.gr.g
    have n1 : 1 ≤ ns.length := by omega
    have n4 : ns.length ≤ 4 := by omega
    -- the books
    refine ⟨_, rfl, _, rfl, _, rfl, rfl, G6, pp, lh, ln, hs, ns, _, rfl, P6.gr.s, P6.pg, P6.ph, by omega, hlh6, hln, hN, hl12, n1, n4, nsub, fun bk kvb bs G7 H7 P7 nbk gbk hbk hbs hbn hbB => ?_⟩
    have bp : bk ≠ pp := P6.ne nbk
    have hln7 := P7.gr.g _ _ hln
    refine ⟨_, rfl, _, rfl, _, rfl, rfl, G7, pp, lh, ln, hs, ns, _, rfl, P7.gr.s, P7.pg, P7.ph, by omega, P7.gr.g _ _ hlh6, hln7, hN, hl12, n1, n4, nsub, fun tw kvt ts G8 H8 P8 ntw gtw htw hts htn htB => ⟨_, _, rfl, ?_⟩⟩
    have tp : tw ≠ pp := P7.ne ntw
    have eX8 := (eX6.trans P7.gr.g).trans P8.gr.g
    have hln8 := P8.gr.g _ _ hln7
    have hlh8 := P8.gr.g _ _ (P7.gr.g _ _ hlh6)
    have ct := cap_top n1 n4
    have bl : bs.length = hs.length := by rw [← hbn, List.length_map]
    have tl : ts.length = hs.length := by rw [← htn, List.length_map]
    -- the heaps
    refine ⟨_, rfl, _, rfl, rfl, G8, pp, bk, kvb, bs, _, rfl, P8.gr.s, P8.pg, P8.ph, by omega, P8.hold bp hbk, P8.out gbk hbk, hbs.ex P8.gr.g, fun b hb x hx => ?_, by rw [hbn]; exact hN, by omega, fun b hb => hI _ (by rw [← hbn]; exact List.mem_map_of_mem hb), fun a dx l rs ps G9 H9 P9 ha nl9 gl hlr hps en et => ?_⟩
    · have := hbB b hb x hx
      omega
    have le : ∀ {qs : List Pcl}, qs.map (·.name) = hs → qs.length ≤ 12 := fun {qs} e => by
      have z := congrArg List.length e
      rw [List.length_map] at z
      omega
    have np : ∀ {G H : Hp} {b : Addr} {u : HO} {n : Nat} {G0 H0 : Hp}, Pu pp n G0 H0 G H → G b = some u → b ≠ pp := fun P h z => by
      rw [z, P.pg] at h
      cases h
    have KA9 : Kept K G9 H9 pp a dx l bk rs ps kvb bs hs (capM ns.length) :=
      ⟨⟨P9.gr.s _ _ ha, hlr, hps.ex P9.gr.s, le (en.trans hbn)⟩, hps, ha, gl, P8.ne nl9, np P9 ha, P9.hold bp (P8.hold bp hbk), P9.out (P8.out gbk hbk) (P8.hold bp hbk), bp, (hbs.ex P8.gr.g).ex P9.gr.g, by rw [en, hbn], hbn, fun n _ => sides_eq en et n, hbB⟩
    have htw9 := P9.hold tp htw
    have gtw9 := P9.out gtw htw
    have hts9 := hts.ex P9.gr.g
    refine ⟨_, rfl, _, rfl, rfl, G9, pp, tw, kvt, ts, _, rfl, P9.gr.s, P9.pg, P9.ph, by omega, htw9, gtw9, hts9, fun b hb x hx => ?_, by rw [htn]; exact hN, by omega, fun b hb => hI _ (by rw [← htn]; exact List.mem_map_of_mem hb), fun a2 dx2 l2 rs2 ps2 G10 H10 P10 ha2 nl10 gl2 hlr2 hps2 en2 et2 => ⟨_, _, rfl, ?_⟩⟩
    · have := htB b hb x hx
      omega
    have KB10 : Kept K G10 H10 pp a2 dx2 l2 tw rs2 ps2 kvt ts hs (capM ns.length) :=
      ⟨⟨P10.gr.s _ _ ha2, hlr2, hps2.ex P10.gr.s, le (en2.trans htn)⟩, hps2, ha2, gl2, P9.ne nl10, np P10 ha2, P10.hold tp htw9, P10.out gtw9 htw9, tp, hts9.ex P10.gr.g, by rw [en2, htn], htn, fun n _ => sides_eq en2 et2 n, htB⟩
    have KA10 := KA9.pu P10
    have eX10 := (eX8.trans P9.gr.g).trans P10.gr.g
    have hln10 := P10.gr.g _ _ (P9.gr.g _ _ hln8)
    have hlh10 := P10.gr.g _ _ (P9.gr.g _ _ hlh8)
    have capn : ∀ {k : Nat}, k ≤ ns.length → ((k : Nat) : Int) * capM ns.length ≤ 100000 := fun h => cap_le h n1 n4
    -- right
    refine ⟨_, rfl, _, rfl, _, rfl, _, rfl, rfl, G10, pp, a, dx, l, bk, ln, rs, ps, kvb, bs, ns, 400, rfl, P10.gr.s, P10.pg, (P10.le (n' := 400) (by omega)).ph, by omega, KA10.ask hln10 nN nsub n1 n4 (capn (Nat.le_refl _)) hI, fun G11 H11 P11 => ⟨_, rfl, iteF (by decide) ?_⟩⟩
    have KA11 := KA10.pu P11
    have KB11 := KB10.pu P11
    have hlh11 := P11.gr.g _ _ hlh10
    have shH : PySem.SeqAt.shaped (.list (hs.map PyData.str)) = true := shaped_strs fun x hx => strOk_name (hI x hx)
    refine ⟨_, rfl, a, dx, _, rfl, KA11.hh.at_, rfl, rfl, a, dx, l, rs, ps, rfl, KA11.hh, fun p12 H12 np12 e12 hp12 => ⟨_, rfl, .list (hs.map .str), .list (hs.map .str), .lst (sq_of (by rw [hp12, en, hbn])) (dp_strs _), .lst (sq_of (e12 _ _ (P11.gr.s _ _ hlh11))) (dp_strs _), shH, shH, _, rfl, ?_⟩⟩
    rw [eqv_strs]
    refine iteF (by decide) ?_
    have P12 := P11.exH e12
    have KA12 := KA10.pu P12
    have KB12 := KB10.pu P12
    have eX12 := eX10.trans P12.gr.g
    have hln12 := P12.gr.g _ _ hln10
    have Q12 : Pu pp 480 G11 H12 G11 H12 := Pu.start P12.gr.s P12.pg P12.ph
    -- others
    have mm : (0 : Int) < (if (3 : Int) < 1 + d then 3 else 1 + d) ∧ (if (3 : Int) < 1 + d then 3 else 1 + d) ≤ 3 ∧ (if (3 : Int) < 1 + d then 3 else 1 + d) ≤ ((mN : Nat) : Int) := by
      split <;> omega
    refine ⟨_, rfl, _, rfl, _, rfl, _, rfl, _, _, rfl, rfl, pp, _, 480, rfl, mm.1, by omega, Q12.ph, by omega, fun d13 o13 c0 c1 ho13 => ⟨_, _, rfl, rfl, ?_⟩⟩
    have Q13 := Q12.draw ho13
    refine ⟨rfl, G11, pp, lh, hs, (1 + d13).toNat, 481, ?_, Q13.gr.s, Q13.pg, Q13.ph, by omega, hlh11, hl12, by omega, fun lo os G14 H14 P14 hlo ol operm => ?_⟩
    · show [V.ref pp, V.ref lh, V.int (1 + d13)] = [V.ref pp, V.ref lh, V.int (((1 + d13).toNat : Nat) : Int)]
      rw [show (((1 + d13).toNat : Nat) : Int) = 1 + d13 by omega]
    obtain ⟨orest, operm⟩ := operm
    have oN : os.Nodup := (List.nodup_append.mp (operm.nodup_iff.mpr hN)).1
    have osub : ∀ x ∈ os, x ∈ hs := fun x hx => operm.subset (List.mem_append_left _ hx)
    have ol1 : 1 ≤ os.length := by omega
    have ol2 : os.length ≤ ns.length := by omega
    have R14 := Q13.trans P14
    have KA14 := KA12.pu R14
    have KB14 := KB12.pu R14
    have eX14 := eX12.trans R14.gr.g
    have hln14 := R14.gr.g _ _ hln12
    -- the asked ones
    refine ⟨_, rfl, _, rfl, ln, _, rfl, sq_of (R14.gr.s _ _ hln14), fun lr nlr => ⟨_, rfl, _, rfl, szl (by simp), fun tt ntt => ?_⟩⟩
    have S14 : Pu pp 500 G14 H14 G14 H14 := (Pu.start R14.gr.s R14.pg R14.ph).le (by omega)
    have S15 := S14.new (o := .lst (ns.map V.str).reverse) nlr
    have hlr15 : upd G14 lr (.lst (ns.map V.str).reverse) lr = some (.lst (ns.reverse.map V.str)) := by
      rw [upd_same, List.map_reverse]
    have S16 := S15.exH (Ex.new (o := .tup [.ref lo, .ref lr, .ref ln, .ref lo]) ntt)
    have ttp : tt ≠ pp := S15.ne ntt
    have htt : upd (upd H14 lr (.lst (ns.map V.str).reverse)) tt (.tup [.ref lo, .ref lr, .ref ln, .ref lo]) tt = some (.tup [.ref lo, .ref lr, .ref ln, .ref lo]) := upd_same
    have hlo15 := S15.gr.g _ _ hlo
    have hln15 := S15.gr.g _ _ hln14
    have KA16 := KA14.pu S16
    have KB16 := KB14.pu S16
    have eX16 := eX14.trans S16.gr.g
    generalize upd G14 lr (.lst (ns.map V.str).reverse) = G16 at *
    generalize upd (upd H14 lr (.lst (ns.map V.str).reverse)) tt (.tup [.ref lo, .ref lr, .ref ln, .ref lo]) = H16 at *
    have T16 : Pu pp 500 G16 H16 G16 H16 := Pu.start S16.gr.s S16.pg S16.ph
    refine ⟨tt, rfl, ⟨_, st_of htt⟩, forE (walk_tup (xs := [V.ref lo, .ref lr, .ref ln, .ref lo])) (fun j σ H' => ∃ G' o11, σ = [some (.ref sa), some (.int (i : Nat)), some (.ref pp), some (.int (1 + d)), some (.ref lh), some (.ref ln), some (.ref bk), some (.ref tw), some (.ref a), some (.ref a2), some (.ref lo), o11] ∧ Pu pp (500 + 80 * j) G16 H16 G' H')
      ⟨G16, o11, rfl, T16⟩ (fun j σ H' _ pv => ?_) (fun j z σ Hy Hz N2 hj pv hy k2 => ?_) fun σ H' pv => ?_⟩
    · obtain ⟨G', _, _, P⟩ := pv
      exact st_of (P.hold ttp htt)
    · obtain ⟨Gz, o11, rfl, Pz⟩ := pv
      obtain ⟨rfl, hy⟩ := hy
      have kd : ∃ (sm : Addr) (nx : List Str), z = .ref sm ∧ G16 sm = some (.lst (nx.map V.str)) ∧ nx.Nodup ∧ (∀ x ∈ nx, x ∈ hs) ∧ 1 ≤ nx.length ∧ nx.length ≤ ns.length := by
        rcases (show j = 0 ∨ j = 1 ∨ j = 2 ∨ j = 3 by simp at hj; omega) with r | r | r | r <;> subst r <;> cases hy
        · exact ⟨lo, os, rfl, hlo15, oN, osub, ol1, ol2⟩
        · exact ⟨lr, ns.reverse, rfl, hlr15, (List.reverse_perm ns).nodup_iff.mpr nN, fun x hx => nsub x (List.mem_reverse.mp hx), by rw [List.length_reverse]; exact n1, by rw [List.length_reverse]; exact Nat.le_refl _⟩
        · exact ⟨ln, ns, rfl, hln15, nN, nsub, n1, Nat.le_refl _⟩
        · exact ⟨lo, os, rfl, hlo15, oN, osub, ol1, ol2⟩
      obtain ⟨sm, nx, rfl, hsm, xN, xsub, x1, xl⟩ := kd
      have KAz := KA16.pu Pz
      have hsmz := Pz.gr.g _ _ hsm
      exact if_right (K := K) (fun R h => len_four rfl (Pz.gr.s _ _ hsmz) h) rfl rfl rfl rfl Pz.gr.s Pz.pg Pz.ph (by simp at hj; omega) (fun _ => KAz.ask hsmz xN xsub x1 (by omega) (capn xl) hI) fun G' H' P => k2 _ _ ⟨G', _, rfl, (Pz.trans P).le (by omega)⟩
    obtain ⟨Gz, o11, rfl, Pz⟩ := pv
    have KAz := KA16.pu Pz
    have KBz := KB16.pu Pz
    have eXz := eX16.trans Pz.gr.g
    have hlnz := Pz.gr.g _ _ hln15
    have Uz : Pu pp 820 Gz H' Gz H' := Pu.start Pz.gr.s Pz.pg Pz.ph
    refine if_right (K := K) (n := 820) (fun R h => lt_four rfl h) rfl rfl rfl rfl Uz.gr.s Uz.pg Uz.ph (by omega) (fun _ => KBz.ask hlnz nN nsub n1 n4 (capn (Nat.le_refl _)) hI) fun G17 H17 P17 => ?_
    have KA17 := KAz.pu P17
    have KB17 := KBz.pu P17
    have eX17 := eXz.trans P17.gr.g
    have hln17 := P17.gr.g _ _ hlnz
    refine if_again (K := K) (a := a) (t := ln) (ns := ns) (fun R h => lt_four rfl h) rfl rfl P17.gr.s (fun hb => ⟨KA17.hh, KA17.hps, hln17, n1, by have := of_decide_eq_true hb; omega, nN, fun n hn => KA17.pn.symm.subset (nsub n hn), KA17.sum nsub (capn (Nat.le_refl _)), fun n hn => hI n (nsub n hn)⟩) fun G18 H18 g18 => ?_
    have P18 := P17.pure g18
    have KA18 := KAz.pu P18
    have KB18 := KBz.pu P18
    have eX18 := eXz.trans P18.gr.g
    have hln18 := P18.gr.g _ _ hlnz
    have U18 : Pu pp 900 G18 H18 G18 H18 := Pu.start P18.gr.s P18.pg P18.ph
    refine ⟨_, rfl, _, rfl, _, rfl, _, rfl, _, rfl, _, rfl, rfl, pp, 1 + d, 900, rfl, by omega, by omega, U18.ph, by omega, fun d19 o19 c0 c1 ho19 => ?_⟩
    have P19 := U18.draw ho19
    have KA19 := KA18.pu P19
    have KB19 := KB18.pu P19
    obtain ⟨nm, hnm, hs19⟩ := get_toNat (l := ns) c0 (by omega)
    have hat : atI (ns.map V.str) d19 = some (.str nm) := by
      have ed : d19 = ((d19.toNat : Nat) : Int) := by omega
      rw [ed]
      exact atI_nat (by rw [List.getElem?_map, hnm] <;> rfl)
    have nmh : nm ∈ hs := nsub nm (List.mem_of_getElem? hnm)
    refine ⟨ln, _, d19, _, rfl, rfl, sq_of (P19.gr.s _ _ hln18), hat, rfl, G18, a, dx, l, bk, tw, rs, ps, kvb, kvt, bs, ts, nm, rfl, P19.gr.s, KA19.hh, KA19.ha, KA19.gl, KA19.hps, KA19.pn.nodup_iff.mpr hN, KA19.pn.symm.subset nmh, KA19.hbk, KA19.hbs, by rw [hbn]; exact nmh, KB19.hbk, KB19.hbs, by rw [htn]; exact nmh, fun b hb x hx => ?_, by omega, fun bk2 kv2 rs3 p20 G20 H20 g20 gl20 hl20 hps20 pn20 pt20 nb2 gb2 hb2 hbs2 => ?_⟩
    · have := htB b hb x hx
      omega
    obtain ⟨pob, hpob, hpo⟩ := P19.ph
    have b2p : bk2 ≠ pp := P19.ne nb2
    have KC20 := KA19.repl g20 hN nmh htn htB gl20 hl20 hps20 pn20 pt20 b2p gb2 hb2 hbs2
    have ph20 : PurseAt H20 pp 901 := ⟨pob, g20.h _ _ (fun z => KA19.lp (Option.some.inj z)) hpob, hpo⟩
    have pg20 : G20 pp = none := g20.out P19.pg hpob
    have eX20 := eX18.trans g20.g
    have hln20 := g20.g _ _ hln18
    refine if_right (K := K) (n := 901) (fun R h => lt_four rfl h) rfl rfl rfl rfl g20.s pg20 ph20 (by omega) (fun _ => KC20.ask hln20 nN nsub n1 n4 (capn (Nat.le_refl _)) hI) fun G21 H21 P21 => ?_
    have eX21 := eX20.trans P21.gr.g
    have U21 : Pu pp 981 G21 H21 G21 H21 := Pu.start P21.gr.s P21.pg P21.ph
    have fin : ∀ {σ : L2.St} {G' H' : Hp}, Ex H1 G' → Ex G' H' → (∃ o1 o2 o3 o4 o5 o6 o7 o8 o9 o10 o11, σ = [some (.ref sa), o1, o2, o3, o4, o5, o6, o7, o8, o9, o10, o11]) → N σ H' := fun e1 e2 h => k1 _ _ ⟨ex_l (e1.trans e2) hS1, h⟩
    have sig : ∃ p1 p2 p3 p4 p5 p6 p7 p8 p9 p10 p11, ([some (.ref sa), some (.int (i : Nat)), some (.ref pp), some (.int (1 + d)), some (.ref lh), some (.ref ln), some (.ref bk2), some (.ref tw), some (.ref a), some (.ref a2), some (.ref lo), o11] : L2.St) = [some (.ref sa), p1, p2, p3, p4, p5, p6, p7, p8, p9, p10, p11] := ⟨_, _, _, _, _, _, _, _, _, _, _, rfl⟩
    refine ⟨_, rfl, rfl, _, rfl, ?_⟩
    refine iteB ?_ (iteF (by decide) (fin eX21 P21.gr.s sig))
    refine ⟨_, rfl, rfl, pp, 2, 981, rfl, by decide, by decide, U21.ph, by omega, fun d22 o22 _ _ ho22 => ⟨rfl, _, rfl, ?_⟩⟩
    have P22 := U21.draw ho22
    refine iteB ?_ (iteF (by decide) (fin eX21 P22.gr.s sig))
    exact ⟨_, rfl, rfl, G21, pp, 982, rfl, P22.gr.s, P22.pg, P22.ph, by omega, fun G23 H23 P23 => ⟨_, rfl, iteF (by decide) (fin (eX21.trans P23.gr.g) P23.gr.s sig)⟩⟩
  · obtain ⟨_, o1, o2, o3, o4, o5, o6, o7, o8, o9, o10, o11, rfl⟩ := pv
    exact q _
end BX
set_option maxHeartbeats 0
namespace BX
open PySem PySem.Spec PyProof.Rows L2
/-! the written part: just what the facts lean on, by paths -/
def gloN : List Str := (["is_whole", "is_name", "is_order", "are_labels", "beside", "turned_three", "turned_by", "need_names", "chosen", "choices_of", "partings_of", "all_ways", "is_held", "with_two", "laid_lists", "papers_of", "lists_of", "_law_cell", "_law_purse", "_law_take", "_law_names", "_law_orders", "_law_three", "_law_heap", "_law_laying", "_law_picked", "_law_book", "_law_span", "_law_named", "_law_is_whole"] : List Str) ++ (["_law_is_order", "_law_choices", "_law_all_choices", "_law_held", "_law_pairs_held", "_law_list_right", "_law_shown", "_law_ranked", "_law_stood", "_law_right", "_law_again", "_law_replaced", "_law_four_right", "law", "Sides", "Parcel", "Heap", "Laid", "ORDERS", "LABELS"] : List Str)
def clsN : List Str := ["Sides", "Parcel", "Heap", "Laid"]
def metN : List (Str × Str) := ([("Sides", "__init__"), ("Sides", "told"), ("Sides", "ranked"), ("Sides", "__str__"), ("Parcel", "__init__"), ("Parcel", "name"), ("Parcel", "sides"), ("Parcel", "__str__"), ("Heap", "__init__"), ("Heap", "place_of"), ("Heap", "put"), ("Heap", "out"), ("Heap", "parcel"), ("Heap", "names"), ("Heap", "parcels"), ("Laid", "__init__"), ("Laid", "holds")] : List (Str × Str))
def nsOf (g : Addr → Option Obj) (C : Addr) : Addr := match g C with
  | some ⟨_, _, .cls cd, _⟩ => cd.ns
  | _ => 0
def valR : Option (Option Value) → Addr
  | some (some (.ref a)) => a
  | _ => 0
def moreOf (g : Addr → Option Obj) (f : Addr) : List Addr := match g f with
  | some ⟨_, _, .func fd, _⟩ => He.refV fd.code ++ He.refV fd.defaults
  | some ⟨_, _, .seq its _, _⟩ => its.toList.flatMap He.refV
  | _ => []
def frL {A : Type} : List Nat → (List Nat → A) → A
  | [], k => k []
  | a :: r, k => HandSHeadRun.frNat a fun a => frL r fun r => k (a :: r)
theorem frL_eq {A : Type} : ∀ (l : List Nat) (k : List Nat → A), frL l k = k l
  | [], k => rfl
  | a :: r, k => by
    show HandSHeadRun.frNat a (fun a => frL r fun r => k (a :: r)) = _
    rw [HandSHeadRun.frNat_eq, frL_eq r]
def asY {A : Type} (g : Addr → Option Obj) (k : List Addr → A) : A :=
  frL (gloN.map (He.ga (He.frG g [mainGlobals]))) fun l1 =>
  frL (clsN.map (He.ga (He.frG g [mainGlobals]))) fun cl =>
  frL (cl.map (nsOf g)) fun ns =>
  frL (metN.map fun p => valR (PySem.W.nsIn (He.frG g ns) (nsOf g (He.ga (He.frG g [mainGlobals]) p.1)) p.2)) fun ms =>
  frL ((l1 ++ ms).flatMap (moreOf g)) fun cs => k (mainGlobals :: sysModules :: (l1 ++ (ns ++ (ms ++ cs))))
abbrev AlY : Type := He.AlD × Bool
def obsY (g : Addr → Option Obj) : AlY := asY g fun as => (He.obsD fa fn (He.frG g as), ex (He.frG g as))
def valY : AlY := (He.valD fn, true)
theorem asY_ex {A : Type} (g : Addr → Option Obj) (k : List Addr → A) : ∃ as, asY g k = k as := by
  unfold asY
  simp only [frL_eq]
  exact ⟨_, rfl⟩
theorem obsY_of {g : Addr → Option Obj} (e : obsY g = valY) : ∃ as, He.SaysD fa fn (He.frG g as) ∧ ex (He.frG g as) = true := by
  unfold obsY at e
  obtain ⟨as, h⟩ := asY_ex g fun as => (He.obsD fa fn (He.frG g as), ex (He.frG g as))
  rw [h] at e
  exact ⟨as, congrArg (fun z : AlY => z.1) e, congrArg (fun z : AlY => z.2) e⟩
def hookY : PySem.W.Hook where
  α := AlY
  obs := fun s => obsY s.heap.get?
  val := fun _ => valY
  says := fun _ h => ∃ K : PySem.W.Frag, K.In h ∧ (He.SaysD fa fn K ∧ ex K = true)
  of := fun _ _ e => let ⟨_, h⟩ := obsY_of e; ⟨_, He.frG_in, h⟩
  keeps := fun _ _ _ ⟨K, hK, c⟩ k => ⟨K, PySem.W.Frag.In.keeps hK k, c⟩
abbrev R : PySem.W.OpenRow := PySem.W.OpenLaw.row PySem.Challenge.rw_boxinbox_k45_whole_lists_told
def ob (s : PySem.W.SharedT) : AlY := obsY (HandSHeadRun.getT s)
theorem ob_eq (s : PySem.W.SharedT) : ob s = hookY.obs s.abs := by
  have e : HandSHeadRun.getT s = s.abs.heap.get? := funext (HandSHeadRun.getT_eq s)
  unfold ob
  rw [e] <;> rfl
def loose : List Str := (["_wall", "SidesError", "NotThere", "NoNumber", "NoName", "NoSide", "NoSides", "NoOrder", "NoLabels", "NoParcel", "Doubled", "TooMany", "NoNames", "NoLaying", "NotInHeap", "LETTERS", "ORDERS", "is_whole", "is_name", "is_order", "MOST_SIDE", "Sides", "LABELS", "MOST_WALL", "MOST_WEIGHT", "are_labels", "Parcel", "MOST_PARCELS", "Heap", "beside"] : List Str) ++ (["turned_three", "turned_by", "MOST_NAMES", "Laid", "need_names", "chosen", "choices_of", "partings_of", "all_ways", "is_held", "with_two", "laid_lists", "papers_of", "lists_of", "_law_cell", "_law_purse", "_law_take", "_law_names", "_law_orders", "_law_three", "_law_heap", "_law_laying", "_law_picked", "_law_book", "_law_span", "_law_named", "_law_is_whole", "_law_is_order", "_law_choices", "_law_all_choices"] : List Str) ++ (["_law_held", "_law_pairs_held", "_law_list_right", "_law_shown", "_law_ranked", "_law_stood", "_law_right", "_law_again", "_law_replaced", "_law_four_right"] : List Str)
def xt (s : Shared) : Bool := PySem.W.xlAt (PySem.W.view R.prog [78]) [] s && PySem.W.recOk R.toRowW.records s
open HandSHeadRun PySem.W PySem.Calls in
theorem run1 (w : World) (os : OsState) : (endF (stepQ (denQ tabQ) R.prog w) 6900 R.prog w os).map (fun s => (looksF R.prog (boot_heap w.params) s.abs, seenQ (PySem.W.view R.prog [78]) loose (importedModules R.prog.main.body) xt s.abs)) = some (true, PySem.W.openGood (PySem.W.view R.prog [78]) loose) := by
  kernel_rfl
open HandSHeadRun PySem.W PySem.Calls in
theorem run2 (w : World) (os : OsState) : (endF (stepQ (denQ tabQ) R.prog w) 6900 R.prog w os).map ob = some valY := by
  kernel_rfl
end BX
namespace BX
open PySem PySem.Spec PyProof.Rows L2
open HandSHeadRun PySem.W PySem.Calls in
theorem run (w : World) : RunEq R (view R.prog [78]) hookY ob 6900 loose w := by
  intro os
  have h1 := run1 w os
  have h2 := run2 w os
  cases e : endF (stepQ (denQ tabQ) R.prog w) 6900 R.prog w os with
  | none =>
    rw [e] at h1
    cases h1
  | some s =>
    rw [e] at h1 h2
    have h3 : (looksF R.prog (boot_heap w.params) s.abs, seenQ (view R.prog [78]) loose (importedModules R.prog.main.body) xt s.abs) = (true, openGood (view R.prog [78]) loose) := Option.some.inj h1
    have h4 : ob s = valY := Option.some.inj h2
    obtain ⟨a, b⟩ := Prod.mk.inj h3
    show some (looksF R.prog (boot_heap w.params) s.abs, seenQ (view R.prog [78]) loose (importedModules R.prog.main.body) xt s.abs, ob s) = _
    rw [a, b, h4]
    rfl
def spLaw (K : PySem.W.Frag) : Sp := fun vs H Q _ => ∃ (a : Addr) (ns : List Int), vs = [.ref a] ∧ SqL K H a (ns.map V.int) ∧ ns.length ≤ 63 ∧ ∀ H', Q (.bl true) H'
theorem holds_of {k : Nat} (hr : Room k callerA) (F : ∀ (w : World) (K : PySem.W.Frag) (mg : Str → Option Value) (base : Heap), Tp K mg → ∀ fd, FunD K "law" "law" (defArgs s_law) (defBody s_law) (defScope s_law) [] [] (He.ga K "law") fd →
    FnG PySem.Challenge.pw_boxinbox_k45_whole_lists_told w K mg base k (He.ga K "law") fd ["_law_script"] (spLaw K)) : PySem.Challenge.rw_boxinbox_k45_whole_lists_told.Holds := by
  open PySem.W PySem.Calls in
  w_on; o_law
  refine HandSHeadRun.head_any (r := PySem.W.OpenLaw.row PySem.Challenge.rw_boxinbox_k45_whole_lists_told) (q := PySem.W.view (PySem.W.OpenLaw.row PySem.Challenge.rw_boxinbox_k45_whole_lists_told).prog [78]) (H := hookY) (ob := ob) (M := 6900) (loose := loose) (d := HandSHeadRun.topDef (PySem.W.OpenLaw.row PySem.Challenge.rw_boxinbox_k45_whole_lists_told).prog 78) (kwd := []) ob_eq
    (by kernel_rfl) (fun s => by kernel_rfl) run (by kernel_rfl) (by kernel_rfl) (by kernel_rfl) (by rfl) (by first | assumption | decide +kernel) (by decide +kernel) ⟨rfl, rfl, rfl, rfl, rfl, by decide +kernel⟩ ?hw ?hc
  case hw => w_witness2
  case hc =>
    refine walk_ofG (l := PySem.Challenge.rw_boxinbox_k45_whole_lists_told) (n := 63) (k := k) (x := "_law_script") rfl (by decide) (by kernel_rfl) hr ?F
    intro w mg fa h Y G hmg0
    obtain ⟨K, KX, c, m⟩ := Y
    have hmg : mg ("law" : PySem.Str) = some (.ref fa) := by
      have e : (HandSHeadRun.topDef (PySem.W.OpenLaw.row PySem.Challenge.rw_boxinbox_k45_whole_lists_told).prog 78).name = ("law" : PySem.Str) := by kernel_rfl
      rw [← e]
      exact hmg0
    have T : Tp K mg := ⟨⟨h, KX, G⟩, c, m⟩
    have e := hmg.symm.trans T.g_law
    cases e
    obtain ⟨fd, F1⟩ := T.f_law
    have b := FunD.bindsA (ps := ["_law_script"]) F1 fun _ _ _ _ _ _ us hl => match us, hl with | [_], _ => rfl
    exact ⟨K, fd, spLaw K, KX, fun s v => b s [v] rfl, fun H a ns hl _ hS => ⟨a, ns, rfl, hS, hl, fun _ => rfl⟩, fun base _ _ => F w K mg base T fd F1⟩
end BX
/-! the join -/
open BX PySem PySem.Spec PyProof.Rows L2
theorem PySem.Challenge.cw_boxinbox_k45_whole_lists_told_holds : PySem.Challenge.rw_boxinbox_k45_whole_lists_told.Holds := by
  refine BX.holds_of (k := 11) ⟨rfl, by decide +kernel, by decide +kernel⟩ fun w K mg base T fd FD => ?_
  have F_Parcel_name := w_Parcel_name (P := PySem.Challenge.pw_boxinbox_k45_whole_lists_told) (w := w) (base := base) T 
  have F_Heap_names := w_Heap_names (P := PySem.Challenge.pw_boxinbox_k45_whole_lists_told) (w := w) (base := base) T F_Parcel_name
  have F_Heap_place_of := w_Heap_place_of (P := PySem.Challenge.pw_boxinbox_k45_whole_lists_told) (w := w) (base := base) T F_Parcel_name
  have F_Heap_parcel := w_Heap_parcel (P := PySem.Challenge.pw_boxinbox_k45_whole_lists_told) (w := w) (base := base) T F_Heap_place_of
  have F_Laid_init := w_Laid_init (P := PySem.Challenge.pw_boxinbox_k45_whole_lists_told) (w := w) (base := base) T 
  have F_Parcel_sides := w_Parcel_sides (P := PySem.Challenge.pw_boxinbox_k45_whole_lists_told) (w := w) (base := base) T 
  have F_Sides_told := w_Sides_told (P := PySem.Challenge.pw_boxinbox_k45_whole_lists_told) (w := w) (base := base) T 
  have F_chosen := w_chosen (P := PySem.Challenge.pw_boxinbox_k45_whole_lists_told) (w := w) (base := base) T  5
  have F_choices_of := w_choices_of (P := PySem.Challenge.pw_boxinbox_k45_whole_lists_told) (w := w) (base := base) T F_chosen
  have F_partings_of := w_partings_of (P := PySem.Challenge.pw_boxinbox_k45_whole_lists_told) (w := w) (base := base) T F_chosen
  have F_Laid_holds := w_Laid_holds (P := PySem.Challenge.pw_boxinbox_k45_whole_lists_told) (w := w) (base := base) T 
  have F_beside := w_beside (P := PySem.Challenge.pw_boxinbox_k45_whole_lists_told) (w := w) (base := base) T 
  have F_turned_three := w_turned_three (P := PySem.Challenge.pw_boxinbox_k45_whole_lists_told) (w := w) (base := base) T 
  have F_all_ways := w_all_ways (P := PySem.Challenge.pw_boxinbox_k45_whole_lists_told) (w := w) (base := base) T F_beside F_turned_three
  have F_is_held := w_is_held (P := PySem.Challenge.pw_boxinbox_k45_whole_lists_told) (w := w) (base := base) T F_Laid_holds
  have F_turned_by := w_turned_by (P := PySem.Challenge.pw_boxinbox_k45_whole_lists_told) (w := w) (base := base) T F_turned_three 5
  have F_with_two := w_with_two (P := PySem.Challenge.pw_boxinbox_k45_whole_lists_told) (w := w) (base := base) T F_Laid_holds F_Laid_init F_all_ways F_is_held F_turned_by
  have F_laid_lists := w_laid_lists (P := PySem.Challenge.pw_boxinbox_k45_whole_lists_told) (w := w) (base := base) T F_Heap_parcel F_Laid_init F_Parcel_sides F_Sides_told F_choices_of F_partings_of F_with_two
  have F_Sides_ranked := w_Sides_ranked (P := PySem.Challenge.pw_boxinbox_k45_whole_lists_told) (w := w) (base := base) T 
  have F_need_names := w_need_names (P := PySem.Challenge.pw_boxinbox_k45_whole_lists_told) (w := w) (base := base) T F_Heap_names F_Heap_parcel F_Parcel_sides F_Sides_ranked
  have F_papers_of := w_papers_of (P := PySem.Challenge.pw_boxinbox_k45_whole_lists_told) (w := w) (base := base) T 
  have F_lists_of := w_lists_of (P := PySem.Challenge.pw_boxinbox_k45_whole_lists_told) (w := w) (base := base) T F_laid_lists F_need_names F_papers_of
  have F_law_again := w_law_again (P := PySem.Challenge.pw_boxinbox_k45_whole_lists_told) (w := w) (base := base) T F_lists_of
  have F_law_orders := w_law_orders (P := PySem.Challenge.pw_boxinbox_k45_whole_lists_told) (w := w) (base := base) T 
  have F_law_take := w_law_take (P := PySem.Challenge.pw_boxinbox_k45_whole_lists_told) (w := w) (base := base) T 
  have F_law_picked := w_law_picked (P := PySem.Challenge.pw_boxinbox_k45_whole_lists_told) (w := w) (base := base) T F_law_take
  have F_law_three := w_law_three (P := PySem.Challenge.pw_boxinbox_k45_whole_lists_told) (w := w) (base := base) T F_law_take
  have F_law_book := w_law_book (P := PySem.Challenge.pw_boxinbox_k45_whole_lists_told) (w := w) (base := base) T F_law_orders F_law_picked F_law_take F_law_three
  have F_law_cell := w_law_cell (P := PySem.Challenge.pw_boxinbox_k45_whole_lists_told) (w := w) (base := base) T 
  have F_law_choices := w_law_choices (P := PySem.Challenge.pw_boxinbox_k45_whole_lists_told) (w := w) (base := base) T  5
  have F_law_all_choices := w_law_all_choices (P := PySem.Challenge.pw_boxinbox_k45_whole_lists_told) (w := w) (base := base) T F_law_choices
  have F_Heap_init := w_Heap_init (P := PySem.Challenge.pw_boxinbox_k45_whole_lists_told) (w := w) (base := base) T 
  have F_Heap_put := w_Heap_put (P := PySem.Challenge.pw_boxinbox_k45_whole_lists_told) (w := w) (base := base) T (dvs := [.non]) (fun fd F => F.binds1 2 0 (List.cons_ne_nil _ _) rfl fun T kV doc pm an cdv ct us its hu hi => match us, hu, its, hi with | [_, _], _, [_], _ => ⟨_, rfl, rfl⟩) F_Heap_names F_Heap_place_of F_Parcel_name
  have F_are_labels := w_are_labels (P := PySem.Challenge.pw_boxinbox_k45_whole_lists_told) (w := w) (base := base) T 
  have F_is_name := w_is_name (P := PySem.Challenge.pw_boxinbox_k45_whole_lists_told) (w := w) (base := base) T 
  have F_is_whole := w_is_whole (P := PySem.Challenge.pw_boxinbox_k45_whole_lists_told) (w := w) (base := base) T 
  have F_Parcel_init4 := w_Parcel_init (P := PySem.Challenge.pw_boxinbox_k45_whole_lists_told) (w := w) (base := base) T (dvs := [.int 1, .int 0, .int 0, .non]) (fun fd F => F.binds1 3 0 (List.cons_ne_nil _ _) rfl fun T kV doc pm an cdv ct us its hu hi => match us, hu, its, hi with | [_, _, _], _, [_, _, _, _], _ => ⟨_, rfl, rfl⟩) F_are_labels F_is_name F_is_whole
  have F_Parcel_init0 := w_Parcel_init (P := PySem.Challenge.pw_boxinbox_k45_whole_lists_told) (w := w) (base := base) T (dvs := []) (fun fd F => F.binds1 7 4 (List.cons_ne_nil _ _) rfl fun T kV doc pm an cdv ct us its hu hi => match us, hu, its, hi with | [_, _, _, _, _, _, _], _, [_, _, _, _], _ => ⟨_, rfl, rfl⟩) F_are_labels F_is_name F_is_whole
  have F_Sides_init := w_Sides_init (P := PySem.Challenge.pw_boxinbox_k45_whole_lists_told) (w := w) (base := base) T F_is_whole
  have F_law_heap := w_law_heap (P := PySem.Challenge.pw_boxinbox_k45_whole_lists_told) (w := w) (base := base) T F_Heap_init F_Heap_put F_Parcel_init0 F_Sides_init F_law_take
  have F_law_names := w_law_names (P := PySem.Challenge.pw_boxinbox_k45_whole_lists_told) (w := w) (base := base) T F_law_take
  have F_law_held := w_law_held (P := PySem.Challenge.pw_boxinbox_k45_whole_lists_told) (w := w) (base := base) T 
  have F_law_pairs_held := w_law_pairs_held (P := PySem.Challenge.pw_boxinbox_k45_whole_lists_told) (w := w) (base := base) T F_law_held F_law_orders
  have F_law_list_right := w_law_list_right (P := PySem.Challenge.pw_boxinbox_k45_whole_lists_told) (w := w) (base := base) T F_law_choices F_law_held F_law_pairs_held
  have F_law_is_whole := w_law_is_whole (P := PySem.Challenge.pw_boxinbox_k45_whole_lists_told) (w := w) (base := base) T 
  have F_law_is_order := w_law_is_order (P := PySem.Challenge.pw_boxinbox_k45_whole_lists_told) (w := w) (base := base) T F_law_is_whole
  have F_law_named := w_law_named (P := PySem.Challenge.pw_boxinbox_k45_whole_lists_told) (w := w) (base := base) T F_law_is_order F_law_is_whole 5
  have F_law_span := w_law_span (P := PySem.Challenge.pw_boxinbox_k45_whole_lists_told) (w := w) (base := base) T  5
  have F_law_shown := w_law_shown (P := PySem.Challenge.pw_boxinbox_k45_whole_lists_told) (w := w) (base := base) T F_law_all_choices F_law_list_right F_law_named F_law_span
  have F_law_four_right := w_law_four_right (P := PySem.Challenge.pw_boxinbox_k45_whole_lists_told) (w := w) (base := base) T F_law_all_choices F_law_heap F_law_names F_law_picked F_law_shown F_law_take F_lists_of
  have F_law_purse := w_law_purse (P := PySem.Challenge.pw_boxinbox_k45_whole_lists_told) (w := w) (base := base) T 
  have F_Heap_out := w_Heap_out (P := PySem.Challenge.pw_boxinbox_k45_whole_lists_told) (w := w) (base := base) T F_Heap_place_of
  have F_law_replaced := w_law_replaced (P := PySem.Challenge.pw_boxinbox_k45_whole_lists_told) (w := w) (base := base) T F_Heap_out F_Heap_put F_Parcel_init4 F_Sides_init
  have F_law_laying := w_law_laying (P := PySem.Challenge.pw_boxinbox_k45_whole_lists_told) (w := w) (base := base) T F_law_orders F_law_take
  have F_law_ranked := w_law_ranked (P := PySem.Challenge.pw_boxinbox_k45_whole_lists_told) (w := w) (base := base) T F_law_span
  have F_Heap_parcels := w_Heap_parcels (P := PySem.Challenge.pw_boxinbox_k45_whole_lists_told) (w := w) (base := base) T 
  have F_Sides_str := w_Sides_str (P := PySem.Challenge.pw_boxinbox_k45_whole_lists_told) (w := w) (base := base) T 
  have F_Parcel_str := w_Parcel_str (P := PySem.Challenge.pw_boxinbox_k45_whole_lists_told) (w := w) (base := base) T F_Sides_str
  have F_law_stood := w_law_stood (P := PySem.Challenge.pw_boxinbox_k45_whole_lists_told) (w := w) (base := base) T F_Heap_parcels F_Parcel_str
  have F_law_right := w_law_right (P := PySem.Challenge.pw_boxinbox_k45_whole_lists_told) (w := w) (base := base) T F_law_all_choices F_law_held F_law_laying F_law_picked F_law_ranked F_law_shown F_law_span F_law_stood F_law_take F_lists_of
  exact w_law T F_Heap_names F_law_again F_law_book F_law_cell F_law_four_right F_law_heap F_law_names F_law_picked F_law_purse F_law_replaced F_law_right F_law_take fd FD
