import PyProof.Rows.All
import Wide.All
import OpenK.AllK
import Wide.FinOn
import KE.KStateDown
import Lean
import HandS.ForMost
import HandS.HeadNt
import HandS.Head0
import HandS.Head1
import HandS.Head2
import HandS.IsInst
import HandS.Flow
import HandS.Star
import HandS.TupAny
import HandS.Conv
import HandS.Defaults
import HandS.Property
import HandS.DictComp
import HandS.Zip
import HandS.NoneIn
import HandS.ListItems
import HandS.SetKeys
import HandS.SlotsOwn
import HandS.MakeKw
import HandS.MethStar
import KE.KCallOwn
import PyProof.InstNe
import HandS.RaiseMore
import KE.KDictList
import PyProof.ReprRoads
import PyProof.Draws
import PyProof.EnumMake
import PyProof.DictUpdate
import HandS.MakeKwOnly
import HandS.ClsMeth
import HandS.Style
import HandS.FStr
import HandS.SortInts
import HandS.More
import HandS.DeepEq
import PyProof.ReprLen
import HandS.Ends
import HandS.HeadEnd
import PySem.Challenge.RW_namedabove_k62_whole_histories_of_inboxe
set_option Elab.async false
set_option linter.all false
set_option maxRecDepth 100000
set_option maxHeartbeats 4000000
/-! K62Text: the text by places, the facts of the head, the defs. Printed by gen_head.py. -/
namespace K62
open PySem PySem.Spec PyProof.Rows L2
abbrev PW : Program := PySem.Challenge.pw_namedabove_k62_whole_histories_of_inboxe
def topS (i : Nat) : Stmt := PySem.Challenge.pw_namedabove_k62_whole_histories_of_inboxe.main.body.getD i (.Pass ⟨0, 0, 0, 0⟩)
abbrev s_is_name : Stmt := topS 16
abbrev s_is_integer : Stmt := topS 17
abbrev s_is_mark : Stmt := topS 18
abbrev s_are_signs : Stmt := topS 30
abbrev s_is_part : Stmt := topS 31
abbrev s_part_places : Stmt := topS 32
abbrev s_chain_places : Stmt := topS 33
abbrev s_kept_places : Stmt := topS 37
abbrev s_cut : Stmt := topS 38
abbrev s_require_cutter : Stmt := topS 40
abbrev s_require_rule : Stmt := topS 73
abbrev s_is_arrival : Stmt := topS 75
abbrev s_require_many : Stmt := topS 78
abbrev s_law_dice : Stmt := topS 80
abbrev s_law_roll : Stmt := topS 81
abbrev s_law_one_of : Stmt := topS 82
abbrev s_law_mixed : Stmt := topS 83
abbrev s_law_signs : Stmt := topS 84
abbrev s_law_part : Stmt := topS 85
abbrev s_law_parts : Stmt := topS 86
abbrev s_law_kept : Stmt := topS 87
abbrev s_law_are_neighbours : Stmt := topS 88
abbrev s_law_reached : Stmt := topS 89
abbrev s_law_any_arrivals : Stmt := topS 90
abbrev s_law_page : Stmt := topS 91
abbrev s_law_is_page : Stmt := topS 92
abbrev s_law_entry : Stmt := topS 93
abbrev s_law_moves : Stmt := topS 94
abbrev s_law_is : Stmt := topS 95
abbrev s_law_rule_of : Stmt := topS 96
abbrev s_law_received : Stmt := topS 97
abbrev s_law_same : Stmt := topS 98
abbrev s_law_deed : Stmt := topS 99
abbrev s_law_right : Stmt := topS 100
abbrev s_law : Stmt := topS 101
abbrev s_Cutter_init : Stmt := inClass (topS 36) 0
abbrev s_Cutter_of : Stmt := inClass (topS 36) 1
abbrev s_Cutter_parts : Stmt := inClass (topS 36) 2
abbrev s_Cutter_eq : Stmt := inClass (topS 36) 10
abbrev s_Rule_init : Stmt := inClass (topS 71) 0
abbrev s_Rule_cutter : Stmt := inClass (topS 71) 1
abbrev s_Rule_sees_lost : Stmt := inClass (topS 71) 2
abbrev s_Rule_eq : Stmt := inClass (topS 71) 9
abbrev s_Page_init : Stmt := inClass (topS 76) 0
abbrev s_Page_place_of : Stmt := inClass (topS 76) 1
abbrev s_Page_behind : Stmt := inClass (topS 76) 2
abbrev s_Page_holders : Stmt := inClass (topS 76) 3
abbrev s_Page_neighbours : Stmt := inClass (topS 76) 4
abbrev s_Page_distances : Stmt := inClass (topS 76) 5
abbrev s_Page_joined : Stmt := inClass (topS 76) 6
abbrev s_Inbox_init : Stmt := inClass (topS 77) 0
abbrev s_Inbox_of : Stmt := inClass (topS 77) 1
abbrev s_Inbox_page : Stmt := inClass (topS 77) 2
abbrev s_Inbox_turn : Stmt := inClass (topS 77) 3
abbrev s_Inbox_go_to : Stmt := inClass (topS 77) 4
abbrev s_Inbox_receive : Stmt := inClass (topS 77) 5
abbrev s_Inbox_rule : Stmt := inClass (topS 77) 6
abbrev s_Inbox_use : Stmt := inClass (topS 77) 8
abbrev s_Inbox_marks : Stmt := inClass (topS 77) 9
abbrev s_Inbox_groups : Stmt := inClass (topS 77) 10
abbrev s_Inbox_version : Stmt := inClass (topS 77) 11
abbrev s_Inbox_require_there : Stmt := inClass (topS 77) 12
abbrev s_Inbox_shown : Stmt := inClass (topS 77) 13
abbrev s_Inbox_below : Stmt := inClass (topS 77) 14
abbrev s_Inbox_moves : Stmt := inClass (topS 77) 17
abbrev s_Inbox_undo : Stmt := inClass (topS 77) 18
abbrev s_Inbox_redo : Stmt := inClass (topS 77) 19
abbrev s_Inbox_getitem : Stmt := inClass (topS 77) 23
abbrev s_Inbox_len : Stmt := inClass (topS 77) 25
abbrev s_Inbox_contains : Stmt := inClass (topS 77) 26
abbrev s_Inbox_eq : Stmt := inClass (topS 77) 27
abbrev s_Inbox_str : Stmt := inClass (topS 77) 28
/-- the record's def of a property, a classmethod -/
abbrev Fr : Type := PySem.W.Frag
def gaC (x : Str) (K : Fr) : Addr := He.ga K x
def propAd (C m : Str) (K : Fr) : Addr := He5.wf K (He.ga K C) "property" m
def cmAd (C m : Str) (K : Fr) : Addr := He5.wf K (He.ga K C) "classmethod" m
def mtAd (C m : Str) (K : Fr) : Addr := He.ma K (He.ga K C) m
def propB (C m : Str) (K : Fr) : Bool := He.eqO (PySem.W.findIn K (.ref (He.ga K C)) m) (some (some (.ref (mtAd C m K)))) && (He.eqO (PySem.W.specialIn K (.ref (mtAd C m K)) "__get__") (some (some (.builtin "property.__get__"))) &&
  (decide (PySem.W.takesIn K (.ref (mtAd C m K)) = some true) && (match PySem.W.recIn K (mtAd C m K) "property" with
    | some (.ref _ :: _) => true
    | _ => false)))
def ownB (C m : Str) (K : Fr) : Bool := He.eqO (PySem.W.findIn K (.ref (He.ga K C)) m) (some (some (.ref (mtAd C m K)))) && (PySem.W.isFn K (.ref (mtAd C m K)) && PySem.W.fnIn K (mtAd C m K))
def cmB (C m : Str) (K : Fr) : Bool := He5.wrapB K (He.ga K C) "classmethod" "classmethod.__get__" m && (PySem.W.fnIn K (cmAd C m K) && (PySem.W.readsIn K (He.ga K C) (.type "type") && He.eqO (PySem.W.specialIn K (.ref (He.ga K C)) "__getattribute__") (some (some (.builtin "type.__getattribute__")))))
def insB (C : Str) (K : Fr) : Bool := He.eqO (PySem.W.findIn K (.ref (He.ga K C)) "__class__") (some (some (.builtin "object.__class__"))) && (He.eqO (PySem.W.specialIn K (.builtin "object.__class__") "__get__") (some (some (.builtin "getset_descriptor.__get__"))) &&
  (decide (PySem.W.takesIn K (.builtin "object.__class__") = some true) && decide (PySem.W.mroIn K (He.ga K C) (.type "object") = some true)))
def bmB (C m : Str) (K : Fr) : Bool := He.eqO (PySem.W.specialIn K (.ref (mtAd C m K)) "__get__") (some (some (.builtin "function.__get__"))) && (decide (PySem.W.takesIn K (.ref (mtAd C m K)) = some false) && PySem.W.fnIn K (mtAd C m K))
def neB (C : Str) (K : Fr) : Bool := He.eqO (PySem.W.findIn K (.ref (He.ga K C)) "__ne__") (some (some (.builtin "object.__ne__")))
def kitB (t : Fr → Value) (C : Str) (b : Bool) (K : Fr) : Bool := decide (PySem.W.kitOne K (t K) (.ref (He.ga K C)) = some b)
def clsV (C : Str) (K : Fr) : Value := .ref (He.ga K C)
def tyV' (n : String) (_ : Fr) : Value := .type n
def kitTB (t : Fr → Value) (n : String) (b : Bool) (K : Fr) : Bool := decide (PySem.W.kitOne K (t K) (.type n) = some b)
def facts : List (Fr → Bool) := [
  fun K => (He.Fa.glo "is_name").ok K,
  fun K => (He.Fa.glo "is_integer").ok K,
  fun K => (He.Fa.glo "is_mark").ok K,
  fun K => (He.Fa.glo "are_signs").ok K,
  fun K => (He.Fa.glo "is_part").ok K,
  fun K => (He.Fa.glo "part_places").ok K,
  fun K => (He.Fa.glo "chain_places").ok K,
  fun K => (He.Fa.glo "kept_places").ok K,
  fun K => (He.Fa.glo "cut").ok K,
  fun K => (He.Fa.glo "require_cutter").ok K,
  fun K => (He.Fa.glo "require_rule").ok K,
  fun K => (He.Fa.glo "is_arrival").ok K,
  fun K => (He.Fa.glo "require_many").ok K,
  fun K => (He.Fa.glo "_law_dice").ok K,
  fun K => (He.Fa.glo "_law_roll").ok K,
  fun K => (He.Fa.glo "_law_one_of").ok K,
  fun K => (He.Fa.glo "_law_mixed").ok K,
  fun K => (He.Fa.glo "_law_signs").ok K,
  fun K => (He.Fa.glo "_law_part").ok K,
  fun K => (He.Fa.glo "_law_parts").ok K,
  fun K => (He.Fa.glo "_law_kept").ok K,
  fun K => (He.Fa.glo "_law_are_neighbours").ok K,
  fun K => (He.Fa.glo "_law_reached").ok K,
  fun K => (He.Fa.glo "_law_any_arrivals").ok K,
  fun K => (He.Fa.glo "_law_page").ok K,
  fun K => (He.Fa.glo "_law_is_page").ok K,
  fun K => (He.Fa.glo "_law_entry").ok K,
  fun K => (He.Fa.glo "_law_moves").ok K,
  fun K => (He.Fa.glo "_law_is").ok K,
  fun K => (He.Fa.glo "_law_rule_of").ok K,
  fun K => (He.Fa.glo "_law_received").ok K,
  fun K => (He.Fa.glo "_law_same").ok K,
  fun K => (He.Fa.glo "_law_deed").ok K,
  fun K => (He.Fa.glo "_law_right").ok K,
  fun K => (He.Fa.glo "law").ok K,
  fun K => (He.Fa.glo "Cutter").ok K,
  fun K => (He.Fa.glo "Rule").ok K,
  fun K => (He.Fa.glo "Page").ok K,
  fun K => (He.Fa.glo "Inbox").ok K,
  fun K => (He.Fa.glo "Known_cutters").ok K,
  fun K => (He.Fa.free "isinstance").ok K,
  fun K => (He.Fa.free "len").ok K,
  fun K => (He.Fa.free "all").ok K,
  fun K => (He.Fa.free "list").ok K,
  fun K => (He.Fa.free "tuple").ok K,
  fun K => (He.Fa.free "range").ok K,
  fun K => (He.Fa.free "enumerate").ok K,
  fun K => (He.Fa.free "zip").ok K,
  fun K => (He.Fa.free "sorted").ok K,
  fun K => (He.Fa.free "dict").ok K,
  fun K => (He.Fa.free "int").ok K,
  fun K => (He.Fa.free "str").ok K,
  fun K => (He.Fa.free "bool").ok K,
  fun K => (He.Fa.free "abs").ok K,
  fun K => (He.Fa.free "max").ok K,
  fun K => (He.Fa.free "min").ok K,
  fun K => (He.Fa.free "repr").ok K,
  fun K => (He.Fa.int "LONGEST" 8).ok K,
  fun K => (He.Fa.int "MAX_PARTS" 4).ok K,
  fun K => (He.Fa.int "MOST_FRONT" 2).ok K,
  fun K => (He.Fa.int "MOST_BACK" 3).ok K,
  fun K => (He.Fa.int "FEW" 5).ok K,
  fun K => (He.Fa.str "LETTERS" "abcdefghijklmnopqrstuvwxyz").ok K,
  fun K => (He.Fa.str "WHOLE" "all").ok K,
  fun K => (He.Fa.str "GAP" "..").ok K,
  fun K => (He.Fa.cls "Cutter").ok K,
  fun K => (He.Fa.mkr "Cutter").ok K,
  insB "Cutter",
  kitB (clsV "Cutter") "Cutter" true,
  fun K => (He.Fa.noat "Cutter" "own_parts").ok K,
  fun K => (He.Fa.noat "Cutter" "own_tables").ok K,
  fun K => (He.Fa.noat "Cutter" "own_is_whole").ok K,
  fun K => (He.Fa.cls "Rule").ok K,
  fun K => (He.Fa.mkr "Rule").ok K,
  insB "Rule",
  kitB (clsV "Rule") "Rule" true,
  fun K => (He.Fa.noat "Rule" "own_cutter").ok K,
  fun K => (He.Fa.noat "Rule" "own_sees").ok K,
  fun K => (He.Fa.cls "Page").ok K,
  fun K => (He.Fa.mkr "Page").ok K,
  insB "Page",
  kitB (clsV "Page") "Page" true,
  fun K => (He.Fa.noat "Page" "own_rule").ok K,
  fun K => (He.Fa.noat "Page" "own_marks").ok K,
  fun K => (He.Fa.noat "Page" "own_letters").ok K,
  fun K => (He.Fa.noat "Page" "own_bound").ok K,
  fun K => (He.Fa.noat "Page" "own_shown").ok K,
  fun K => (He.Fa.noat "Page" "own_moves").ok K,
  fun K => (He.Fa.noat "Page" "own_near").ok K,
  fun K => (He.Fa.noat "Page" "own_groups").ok K,
  fun K => (He.Fa.cls "Inbox").ok K,
  fun K => (He.Fa.mkr "Inbox").ok K,
  insB "Inbox",
  kitB (clsV "Inbox") "Inbox" true,
  fun K => (He.Fa.noat "Inbox" "own_pages").ok K,
  fun K => (He.Fa.noat "Inbox" "own_version").ok K,
  fun K => (He.Fa.noat "Inbox" "own_marks").ok K,
  cmB "Cutter" "of",
  propB "Cutter" "parts",
  fun K => (He.Fa.meth "Cutter" "__eq__").ok K,
  ownB "Cutter" "__eq__",
  propB "Rule" "cutter",
  propB "Rule" "sees_lost",
  fun K => (He.Fa.meth "Rule" "__eq__").ok K,
  ownB "Rule" "__eq__",
  fun K => (He.Fa.meth "Page" "place_of").ok K,
  fun K => (He.Fa.meth "Page" "behind").ok K,
  fun K => (He.Fa.meth "Page" "holders").ok K,
  fun K => (He.Fa.meth "Page" "neighbours").ok K,
  fun K => (He.Fa.meth "Page" "distances").ok K,
  fun K => (He.Fa.meth "Page" "joined").ok K,
  cmB "Inbox" "of",
  fun K => (He.Fa.meth "Inbox" "page").ok K,
  fun K => (He.Fa.meth "Inbox" "turn").ok K,
  fun K => (He.Fa.meth "Inbox" "go_to").ok K,
  fun K => (He.Fa.meth "Inbox" "receive").ok K,
  propB "Inbox" "rule",
  fun K => (He.Fa.meth "Inbox" "use").ok K,
  propB "Inbox" "marks",
  propB "Inbox" "groups",
  propB "Inbox" "version",
  fun K => (He.Fa.meth "Inbox" "require_there").ok K,
  fun K => (He.Fa.meth "Inbox" "shown").ok K,
  fun K => (He.Fa.meth "Inbox" "below").ok K,
  fun K => (He.Fa.meth "Inbox" "moves").ok K,
  fun K => (He.Fa.meth "Inbox" "undo").ok K,
  fun K => (He.Fa.meth "Inbox" "redo").ok K,
  fun K => (He.Fa.meth "Inbox" "__getitem__").ok K,
  ownB "Inbox" "__getitem__",
  fun K => (He.Fa.meth "Inbox" "__len__").ok K,
  ownB "Inbox" "__len__",
  fun K => (He.Fa.meth "Inbox" "__contains__").ok K,
  ownB "Inbox" "__contains__",
  fun K => (He.Fa.meth "Inbox" "__eq__").ok K,
  ownB "Inbox" "__eq__",
  fun K => (He.Fa.meth "Inbox" "__str__").ok K,
  ownB "Inbox" "__str__",
  kitB (tyV' "str") "Known_cutters" false,
  kitB (tyV' "dict") "Inbox" false,
  kitB (tyV' "NoneType") "Inbox" false,
  kitTB (tyV' "str") "str" true,
  kitTB (tyV' "int") "int" true,
  kitTB (tyV' "int") "bool" false,
  kitTB (tyV' "tuple") "tuple" true,
  kitTB (tyV' "bool") "bool" true,
  fun K => PySem.W.notFirst K (He.ga K "Rule") (.ref (He.ga K "Rule")),
  fun K => PySem.W.notFirst K (He.ga K "Inbox") (.ref (He.ga K "Inbox")),
  fun K => PySem.W.notFirst K (He.ga K "Cutter") (.ref (He.ga K "Cutter")),
  fun K => PySem.W.notFirst K (He.ga K "Inbox") (.type "dict"),
  fun K => PySem.W.notFirst K (He.ga K "Inbox") (.type "NoneType"),
  bmB "Inbox" "receive",
  neB "Rule",
  neB "Inbox"]
abbrev fi_glo_is_name : Nat := 0
abbrev fi_glo_is_integer : Nat := 1
abbrev fi_glo_is_mark : Nat := 2
abbrev fi_glo_are_signs : Nat := 3
abbrev fi_glo_is_part : Nat := 4
abbrev fi_glo_part_places : Nat := 5
abbrev fi_glo_chain_places : Nat := 6
abbrev fi_glo_kept_places : Nat := 7
abbrev fi_glo_cut : Nat := 8
abbrev fi_glo_require_cutter : Nat := 9
abbrev fi_glo_require_rule : Nat := 10
abbrev fi_glo_is_arrival : Nat := 11
abbrev fi_glo_require_many : Nat := 12
abbrev fi_glo_law_dice : Nat := 13
abbrev fi_glo_law_roll : Nat := 14
abbrev fi_glo_law_one_of : Nat := 15
abbrev fi_glo_law_mixed : Nat := 16
abbrev fi_glo_law_signs : Nat := 17
abbrev fi_glo_law_part : Nat := 18
abbrev fi_glo_law_parts : Nat := 19
abbrev fi_glo_law_kept : Nat := 20
abbrev fi_glo_law_are_neighbours : Nat := 21
abbrev fi_glo_law_reached : Nat := 22
abbrev fi_glo_law_any_arrivals : Nat := 23
abbrev fi_glo_law_page : Nat := 24
abbrev fi_glo_law_is_page : Nat := 25
abbrev fi_glo_law_entry : Nat := 26
abbrev fi_glo_law_moves : Nat := 27
abbrev fi_glo_law_is : Nat := 28
abbrev fi_glo_law_rule_of : Nat := 29
abbrev fi_glo_law_received : Nat := 30
abbrev fi_glo_law_same : Nat := 31
abbrev fi_glo_law_deed : Nat := 32
abbrev fi_glo_law_right : Nat := 33
abbrev fi_glo_law : Nat := 34
abbrev fi_glo_Cutter : Nat := 35
abbrev fi_glo_Rule : Nat := 36
abbrev fi_glo_Page : Nat := 37
abbrev fi_glo_Inbox : Nat := 38
abbrev fi_glo_Known_cutters : Nat := 39
abbrev fi_free_isinstance : Nat := 40
abbrev fi_free_len : Nat := 41
abbrev fi_free_all : Nat := 42
abbrev fi_free_list : Nat := 43
abbrev fi_free_tuple : Nat := 44
abbrev fi_free_range : Nat := 45
abbrev fi_free_enumerate : Nat := 46
abbrev fi_free_zip : Nat := 47
abbrev fi_free_sorted : Nat := 48
abbrev fi_free_dict : Nat := 49
abbrev fi_free_int : Nat := 50
abbrev fi_free_str : Nat := 51
abbrev fi_free_bool : Nat := 52
abbrev fi_free_abs : Nat := 53
abbrev fi_free_max : Nat := 54
abbrev fi_free_min : Nat := 55
abbrev fi_free_repr : Nat := 56
abbrev fi_int_LONGEST : Nat := 57
abbrev fi_int_MAX_PARTS : Nat := 58
abbrev fi_int_MOST_FRONT : Nat := 59
abbrev fi_int_MOST_BACK : Nat := 60
abbrev fi_int_FEW : Nat := 61
abbrev fi_str_LETTERS : Nat := 62
abbrev fi_str_WHOLE : Nat := 63
abbrev fi_str_GAP : Nat := 64
abbrev fi_cls_Cutter : Nat := 65
abbrev fi_mkr_Cutter : Nat := 66
abbrev fi_ins_Cutter : Nat := 67
abbrev fi_kit_Cutter : Nat := 68
abbrev fi_noat_Cutter_own_parts : Nat := 69
abbrev fi_noat_Cutter_own_tables : Nat := 70
abbrev fi_noat_Cutter_own_is_whole : Nat := 71
abbrev fi_cls_Rule : Nat := 72
abbrev fi_mkr_Rule : Nat := 73
abbrev fi_ins_Rule : Nat := 74
abbrev fi_kit_Rule : Nat := 75
abbrev fi_noat_Rule_own_cutter : Nat := 76
abbrev fi_noat_Rule_own_sees : Nat := 77
abbrev fi_cls_Page : Nat := 78
abbrev fi_mkr_Page : Nat := 79
abbrev fi_ins_Page : Nat := 80
abbrev fi_kit_Page : Nat := 81
abbrev fi_noat_Page_own_rule : Nat := 82
abbrev fi_noat_Page_own_marks : Nat := 83
abbrev fi_noat_Page_own_letters : Nat := 84
abbrev fi_noat_Page_own_bound : Nat := 85
abbrev fi_noat_Page_own_shown : Nat := 86
abbrev fi_noat_Page_own_moves : Nat := 87
abbrev fi_noat_Page_own_near : Nat := 88
abbrev fi_noat_Page_own_groups : Nat := 89
abbrev fi_cls_Inbox : Nat := 90
abbrev fi_mkr_Inbox : Nat := 91
abbrev fi_ins_Inbox : Nat := 92
abbrev fi_kit_Inbox : Nat := 93
abbrev fi_noat_Inbox_own_pages : Nat := 94
abbrev fi_noat_Inbox_own_version : Nat := 95
abbrev fi_noat_Inbox_own_marks : Nat := 96
abbrev fi_cm_Cutter_of : Nat := 97
abbrev fi_prop_Cutter_parts : Nat := 98
abbrev fi_meth_Cutter__eq_ : Nat := 99
abbrev fi_own_Cutter__eq_ : Nat := 100
abbrev fi_prop_Rule_cutter : Nat := 101
abbrev fi_prop_Rule_sees_lost : Nat := 102
abbrev fi_meth_Rule__eq_ : Nat := 103
abbrev fi_own_Rule__eq_ : Nat := 104
abbrev fi_meth_Page_place_of : Nat := 105
abbrev fi_meth_Page_behind : Nat := 106
abbrev fi_meth_Page_holders : Nat := 107
abbrev fi_meth_Page_neighbours : Nat := 108
abbrev fi_meth_Page_distances : Nat := 109
abbrev fi_meth_Page_joined : Nat := 110
abbrev fi_cm_Inbox_of : Nat := 111
abbrev fi_meth_Inbox_page : Nat := 112
abbrev fi_meth_Inbox_turn : Nat := 113
abbrev fi_meth_Inbox_go_to : Nat := 114
abbrev fi_meth_Inbox_receive : Nat := 115
abbrev fi_prop_Inbox_rule : Nat := 116
abbrev fi_meth_Inbox_use : Nat := 117
abbrev fi_prop_Inbox_marks : Nat := 118
abbrev fi_prop_Inbox_groups : Nat := 119
abbrev fi_prop_Inbox_version : Nat := 120
abbrev fi_meth_Inbox_require_there : Nat := 121
abbrev fi_meth_Inbox_shown : Nat := 122
abbrev fi_meth_Inbox_below : Nat := 123
abbrev fi_meth_Inbox_moves : Nat := 124
abbrev fi_meth_Inbox_undo : Nat := 125
abbrev fi_meth_Inbox_redo : Nat := 126
abbrev fi_meth_Inbox__getitem_ : Nat := 127
abbrev fi_own_Inbox__getitem_ : Nat := 128
abbrev fi_meth_Inbox__len_ : Nat := 129
abbrev fi_own_Inbox__len_ : Nat := 130
abbrev fi_meth_Inbox__contains_ : Nat := 131
abbrev fi_own_Inbox__contains_ : Nat := 132
abbrev fi_meth_Inbox__eq_ : Nat := 133
abbrev fi_own_Inbox__eq_ : Nat := 134
abbrev fi_meth_Inbox__str_ : Nat := 135
abbrev fi_own_Inbox__str_ : Nat := 136
abbrev fi_kit_str_Known : Nat := 137
abbrev fi_kit_dict_Inbox : Nat := 138
abbrev fi_kit_none_Inbox : Nat := 139
abbrev fi_kit_str_str : Nat := 140
abbrev fi_kit_int_int : Nat := 141
abbrev fi_kit_int_bool : Nat := 142
abbrev fi_kit_tuple_tuple : Nat := 143
abbrev fi_kit_bool_bool : Nat := 144
abbrev fi_first_Rule : Nat := 145
abbrev fi_first_Inbox : Nat := 146
abbrev fi_first_Cutter : Nat := 147
abbrev fi_first_Inbox_dict : Nat := 148
abbrev fi_first_Inbox_none : Nat := 149
abbrev fi_bm_Inbox_receive : Nat := 150
abbrev fi_ne_Rule : Nat := 151
abbrev fi_ne_Inbox : Nat := 152
/-! the defs -/
def d_is_name : He5.DefA := ⟨gaC "is_name", "is_name", "is_name", defArgs s_is_name, defBody s_is_name, defScope s_is_name, [], []⟩
def d_is_integer : He5.DefA := ⟨gaC "is_integer", "is_integer", "is_integer", defArgs s_is_integer, defBody s_is_integer, defScope s_is_integer, [], []⟩
def d_is_mark : He5.DefA := ⟨gaC "is_mark", "is_mark", "is_mark", defArgs s_is_mark, defBody s_is_mark, defScope s_is_mark, [], []⟩
def d_are_signs : He5.DefA := ⟨gaC "are_signs", "are_signs", "are_signs", defArgs s_are_signs, defBody s_are_signs, defScope s_are_signs, [], []⟩
def d_is_part : He5.DefA := ⟨gaC "is_part", "is_part", "is_part", defArgs s_is_part, defBody s_is_part, defScope s_is_part, [], []⟩
def d_part_places : He5.DefA := ⟨gaC "part_places", "part_places", "part_places", defArgs s_part_places, defBody s_part_places, defScope s_part_places, [], []⟩
def d_chain_places : He5.DefA := ⟨gaC "chain_places", "chain_places", "chain_places", defArgs s_chain_places, defBody s_chain_places, defScope s_chain_places, [], []⟩
def d_kept_places : He5.DefA := ⟨gaC "kept_places", "kept_places", "kept_places", defArgs s_kept_places, defBody s_kept_places, defScope s_kept_places, [], []⟩
def d_cut : He5.DefA := ⟨gaC "cut", "cut", "cut", defArgs s_cut, defBody s_cut, defScope s_cut, [], []⟩
def d_require_cutter : He5.DefA := ⟨gaC "require_cutter", "require_cutter", "require_cutter", defArgs s_require_cutter, defBody s_require_cutter, defScope s_require_cutter, [], []⟩
def d_require_rule : He5.DefA := ⟨gaC "require_rule", "require_rule", "require_rule", defArgs s_require_rule, defBody s_require_rule, defScope s_require_rule, [], []⟩
def d_is_arrival : He5.DefA := ⟨gaC "is_arrival", "is_arrival", "is_arrival", defArgs s_is_arrival, defBody s_is_arrival, defScope s_is_arrival, [], []⟩
def d_require_many : He5.DefA := ⟨gaC "require_many", "require_many", "require_many", defArgs s_require_many, defBody s_require_many, defScope s_require_many, [], []⟩
def d_law_dice : He5.DefA := ⟨gaC "_law_dice", "_law_dice", "_law_dice", defArgs s_law_dice, defBody s_law_dice, defScope s_law_dice, [], []⟩
def d_law_roll : He5.DefA := ⟨gaC "_law_roll", "_law_roll", "_law_roll", defArgs s_law_roll, defBody s_law_roll, defScope s_law_roll, [], []⟩
def d_law_one_of : He5.DefA := ⟨gaC "_law_one_of", "_law_one_of", "_law_one_of", defArgs s_law_one_of, defBody s_law_one_of, defScope s_law_one_of, [], []⟩
def d_law_mixed : He5.DefA := ⟨gaC "_law_mixed", "_law_mixed", "_law_mixed", defArgs s_law_mixed, defBody s_law_mixed, defScope s_law_mixed, [], []⟩
def d_law_signs : He5.DefA := ⟨gaC "_law_signs", "_law_signs", "_law_signs", defArgs s_law_signs, defBody s_law_signs, defScope s_law_signs, [], []⟩
def d_law_part : He5.DefA := ⟨gaC "_law_part", "_law_part", "_law_part", defArgs s_law_part, defBody s_law_part, defScope s_law_part, [], []⟩
def d_law_parts : He5.DefA := ⟨gaC "_law_parts", "_law_parts", "_law_parts", defArgs s_law_parts, defBody s_law_parts, defScope s_law_parts, [], []⟩
def d_law_kept : He5.DefA := ⟨gaC "_law_kept", "_law_kept", "_law_kept", defArgs s_law_kept, defBody s_law_kept, defScope s_law_kept, [], []⟩
def d_law_are_neighbours : He5.DefA := ⟨gaC "_law_are_neighbours", "_law_are_neighbours", "_law_are_neighbours", defArgs s_law_are_neighbours, defBody s_law_are_neighbours, defScope s_law_are_neighbours, [], []⟩
def d_law_reached : He5.DefA := ⟨gaC "_law_reached", "_law_reached", "_law_reached", defArgs s_law_reached, defBody s_law_reached, defScope s_law_reached, [], []⟩
def d_law_any_arrivals : He5.DefA := ⟨gaC "_law_any_arrivals", "_law_any_arrivals", "_law_any_arrivals", defArgs s_law_any_arrivals, defBody s_law_any_arrivals, defScope s_law_any_arrivals, [], []⟩
def d_law_page : He5.DefA := ⟨gaC "_law_page", "_law_page", "_law_page", defArgs s_law_page, defBody s_law_page, defScope s_law_page, [], []⟩
def d_law_is_page : He5.DefA := ⟨gaC "_law_is_page", "_law_is_page", "_law_is_page", defArgs s_law_is_page, defBody s_law_is_page, defScope s_law_is_page, [], []⟩
def d_law_entry : He5.DefA := ⟨gaC "_law_entry", "_law_entry", "_law_entry", defArgs s_law_entry, defBody s_law_entry, defScope s_law_entry, [], []⟩
def d_law_moves : He5.DefA := ⟨gaC "_law_moves", "_law_moves", "_law_moves", defArgs s_law_moves, defBody s_law_moves, defScope s_law_moves, [], []⟩
def d_law_is : He5.DefA := ⟨gaC "_law_is", "_law_is", "_law_is", defArgs s_law_is, defBody s_law_is, defScope s_law_is, [], []⟩
def d_law_rule_of : He5.DefA := ⟨gaC "_law_rule_of", "_law_rule_of", "_law_rule_of", defArgs s_law_rule_of, defBody s_law_rule_of, defScope s_law_rule_of, [], []⟩
def d_law_received : He5.DefA := ⟨gaC "_law_received", "_law_received", "_law_received", defArgs s_law_received, defBody s_law_received, defScope s_law_received, [], []⟩
def d_law_same : He5.DefA := ⟨gaC "_law_same", "_law_same", "_law_same", defArgs s_law_same, defBody s_law_same, defScope s_law_same, [], []⟩
def d_law_deed : He5.DefA := ⟨gaC "_law_deed", "_law_deed", "_law_deed", defArgs s_law_deed, defBody s_law_deed, defScope s_law_deed, [], []⟩
def d_law_right : He5.DefA := ⟨gaC "_law_right", "_law_right", "_law_right", defArgs s_law_right, defBody s_law_right, defScope s_law_right, [], []⟩
def d_law : He5.DefA := ⟨gaC "law", "law", "law", defArgs s_law, defBody s_law, defScope s_law, [], []⟩
def d_Cutter_init : He5.DefA := ⟨mtAd "Cutter" "__init__", "__init__", "Cutter.__init__", defArgs s_Cutter_init, defBody s_Cutter_init, defScope s_Cutter_init, [], []⟩
def d_Cutter_of : He5.DefA := ⟨cmAd "Cutter" "of", "of", "Cutter.of", defArgs s_Cutter_of, defBody s_Cutter_of, defScope s_Cutter_of, [], []⟩
def d_Cutter_parts : He5.DefA := ⟨propAd "Cutter" "parts", "parts", "Cutter.parts", defArgs s_Cutter_parts, defBody s_Cutter_parts, defScope s_Cutter_parts, [], []⟩
def d_Cutter_eq : He5.DefA := ⟨mtAd "Cutter" "__eq__", "__eq__", "Cutter.__eq__", defArgs s_Cutter_eq, defBody s_Cutter_eq, defScope s_Cutter_eq, [], []⟩
def d_Rule_init : He5.DefA := ⟨mtAd "Rule" "__init__", "__init__", "Rule.__init__", defArgs s_Rule_init, defBody s_Rule_init, defScope s_Rule_init, [], [("sees_lost", .bl false)]⟩
def d_Rule_cutter : He5.DefA := ⟨propAd "Rule" "cutter", "cutter", "Rule.cutter", defArgs s_Rule_cutter, defBody s_Rule_cutter, defScope s_Rule_cutter, [], []⟩
def d_Rule_sees_lost : He5.DefA := ⟨propAd "Rule" "sees_lost", "sees_lost", "Rule.sees_lost", defArgs s_Rule_sees_lost, defBody s_Rule_sees_lost, defScope s_Rule_sees_lost, [], []⟩
def d_Rule_eq : He5.DefA := ⟨mtAd "Rule" "__eq__", "__eq__", "Rule.__eq__", defArgs s_Rule_eq, defBody s_Rule_eq, defScope s_Rule_eq, [], []⟩
def d_Page_init : He5.DefA := ⟨mtAd "Page" "__init__", "__init__", "Page.__init__", defArgs s_Page_init, defBody s_Page_init, defScope s_Page_init, [], []⟩
def d_Page_place_of : He5.DefA := ⟨mtAd "Page" "place_of", "place_of", "Page.place_of", defArgs s_Page_place_of, defBody s_Page_place_of, defScope s_Page_place_of, [], []⟩
def d_Page_behind : He5.DefA := ⟨mtAd "Page" "behind", "behind", "Page.behind", defArgs s_Page_behind, defBody s_Page_behind, defScope s_Page_behind, [], []⟩
def d_Page_holders : He5.DefA := ⟨mtAd "Page" "holders", "holders", "Page.holders", defArgs s_Page_holders, defBody s_Page_holders, defScope s_Page_holders, [], []⟩
def d_Page_neighbours : He5.DefA := ⟨mtAd "Page" "neighbours", "neighbours", "Page.neighbours", defArgs s_Page_neighbours, defBody s_Page_neighbours, defScope s_Page_neighbours, [], []⟩
def d_Page_distances : He5.DefA := ⟨mtAd "Page" "distances", "distances", "Page.distances", defArgs s_Page_distances, defBody s_Page_distances, defScope s_Page_distances, [], []⟩
def d_Page_joined : He5.DefA := ⟨mtAd "Page" "joined", "joined", "Page.joined", defArgs s_Page_joined, defBody s_Page_joined, defScope s_Page_joined, [], []⟩
def d_Inbox_init : He5.DefA := ⟨mtAd "Inbox" "__init__", "__init__", "Inbox.__init__", defArgs s_Inbox_init, defBody s_Inbox_init, defScope s_Inbox_init, [], []⟩
def d_Inbox_of : He5.DefA := ⟨cmAd "Inbox" "of", "of", "Inbox.of", defArgs s_Inbox_of, defBody s_Inbox_of, defScope s_Inbox_of, [], []⟩
def d_Inbox_page : He5.DefA := ⟨mtAd "Inbox" "page", "page", "Inbox.page", defArgs s_Inbox_page, defBody s_Inbox_page, defScope s_Inbox_page, [], []⟩
def d_Inbox_turn : He5.DefA := ⟨mtAd "Inbox" "turn", "turn", "Inbox.turn", defArgs s_Inbox_turn, defBody s_Inbox_turn, defScope s_Inbox_turn, [], []⟩
def d_Inbox_go_to : He5.DefA := ⟨mtAd "Inbox" "go_to", "go_to", "Inbox.go_to", defArgs s_Inbox_go_to, defBody s_Inbox_go_to, defScope s_Inbox_go_to, [], []⟩
def d_Inbox_receive : He5.DefA := ⟨mtAd "Inbox" "receive", "receive", "Inbox.receive", defArgs s_Inbox_receive, defBody s_Inbox_receive, defScope s_Inbox_receive, [], []⟩
def d_Inbox_rule : He5.DefA := ⟨propAd "Inbox" "rule", "rule", "Inbox.rule", defArgs s_Inbox_rule, defBody s_Inbox_rule, defScope s_Inbox_rule, [], []⟩
def d_Inbox_use : He5.DefA := ⟨mtAd "Inbox" "use", "use", "Inbox.use", defArgs s_Inbox_use, defBody s_Inbox_use, defScope s_Inbox_use, [], []⟩
def d_Inbox_marks : He5.DefA := ⟨propAd "Inbox" "marks", "marks", "Inbox.marks", defArgs s_Inbox_marks, defBody s_Inbox_marks, defScope s_Inbox_marks, [], []⟩
def d_Inbox_groups : He5.DefA := ⟨propAd "Inbox" "groups", "groups", "Inbox.groups", defArgs s_Inbox_groups, defBody s_Inbox_groups, defScope s_Inbox_groups, [], []⟩
def d_Inbox_version : He5.DefA := ⟨propAd "Inbox" "version", "version", "Inbox.version", defArgs s_Inbox_version, defBody s_Inbox_version, defScope s_Inbox_version, [], []⟩
def d_Inbox_require_there : He5.DefA := ⟨mtAd "Inbox" "require_there", "require_there", "Inbox.require_there", defArgs s_Inbox_require_there, defBody s_Inbox_require_there, defScope s_Inbox_require_there, [], []⟩
def d_Inbox_shown : He5.DefA := ⟨mtAd "Inbox" "shown", "shown", "Inbox.shown", defArgs s_Inbox_shown, defBody s_Inbox_shown, defScope s_Inbox_shown, [], []⟩
def d_Inbox_below : He5.DefA := ⟨mtAd "Inbox" "below", "below", "Inbox.below", defArgs s_Inbox_below, defBody s_Inbox_below, defScope s_Inbox_below, [], []⟩
def d_Inbox_moves : He5.DefA := ⟨mtAd "Inbox" "moves", "moves", "Inbox.moves", defArgs s_Inbox_moves, defBody s_Inbox_moves, defScope s_Inbox_moves, [], []⟩
def d_Inbox_undo : He5.DefA := ⟨mtAd "Inbox" "undo", "undo", "Inbox.undo", defArgs s_Inbox_undo, defBody s_Inbox_undo, defScope s_Inbox_undo, [], [("many", .int 1)]⟩
def d_Inbox_redo : He5.DefA := ⟨mtAd "Inbox" "redo", "redo", "Inbox.redo", defArgs s_Inbox_redo, defBody s_Inbox_redo, defScope s_Inbox_redo, [], [("many", .int 1)]⟩
def d_Inbox_getitem : He5.DefA := ⟨mtAd "Inbox" "__getitem__", "__getitem__", "Inbox.__getitem__", defArgs s_Inbox_getitem, defBody s_Inbox_getitem, defScope s_Inbox_getitem, [], []⟩
def d_Inbox_len : He5.DefA := ⟨mtAd "Inbox" "__len__", "__len__", "Inbox.__len__", defArgs s_Inbox_len, defBody s_Inbox_len, defScope s_Inbox_len, [], []⟩
def d_Inbox_contains : He5.DefA := ⟨mtAd "Inbox" "__contains__", "__contains__", "Inbox.__contains__", defArgs s_Inbox_contains, defBody s_Inbox_contains, defScope s_Inbox_contains, [], []⟩
def d_Inbox_eq : He5.DefA := ⟨mtAd "Inbox" "__eq__", "__eq__", "Inbox.__eq__", defArgs s_Inbox_eq, defBody s_Inbox_eq, defScope s_Inbox_eq, [], []⟩
def d_Inbox_str : He5.DefA := ⟨mtAd "Inbox" "__str__", "__str__", "Inbox.__str__", defArgs s_Inbox_str, defBody s_Inbox_str, defScope s_Inbox_str, [], []⟩
abbrev di_is_name : Nat := 0
abbrev di_is_integer : Nat := 1
abbrev di_is_mark : Nat := 2
abbrev di_are_signs : Nat := 3
abbrev di_is_part : Nat := 4
abbrev di_part_places : Nat := 5
abbrev di_chain_places : Nat := 6
abbrev di_kept_places : Nat := 7
abbrev di_cut : Nat := 8
abbrev di_require_cutter : Nat := 9
abbrev di_require_rule : Nat := 10
abbrev di_is_arrival : Nat := 11
abbrev di_require_many : Nat := 12
abbrev di_law_dice : Nat := 13
abbrev di_law_roll : Nat := 14
abbrev di_law_one_of : Nat := 15
abbrev di_law_mixed : Nat := 16
abbrev di_law_signs : Nat := 17
abbrev di_law_part : Nat := 18
abbrev di_law_parts : Nat := 19
abbrev di_law_kept : Nat := 20
abbrev di_law_are_neighbours : Nat := 21
abbrev di_law_reached : Nat := 22
abbrev di_law_any_arrivals : Nat := 23
abbrev di_law_page : Nat := 24
abbrev di_law_is_page : Nat := 25
abbrev di_law_entry : Nat := 26
abbrev di_law_moves : Nat := 27
abbrev di_law_is : Nat := 28
abbrev di_law_rule_of : Nat := 29
abbrev di_law_received : Nat := 30
abbrev di_law_same : Nat := 31
abbrev di_law_deed : Nat := 32
abbrev di_law_right : Nat := 33
abbrev di_law : Nat := 34
abbrev di_Cutter_init : Nat := 35
abbrev di_Cutter_of : Nat := 36
abbrev di_Cutter_parts : Nat := 37
abbrev di_Cutter_eq : Nat := 38
abbrev di_Rule_init : Nat := 39
abbrev di_Rule_cutter : Nat := 40
abbrev di_Rule_sees_lost : Nat := 41
abbrev di_Rule_eq : Nat := 42
abbrev di_Page_init : Nat := 43
abbrev di_Page_place_of : Nat := 44
abbrev di_Page_behind : Nat := 45
abbrev di_Page_holders : Nat := 46
abbrev di_Page_neighbours : Nat := 47
abbrev di_Page_distances : Nat := 48
abbrev di_Page_joined : Nat := 49
abbrev di_Inbox_init : Nat := 50
abbrev di_Inbox_of : Nat := 51
abbrev di_Inbox_page : Nat := 52
abbrev di_Inbox_turn : Nat := 53
abbrev di_Inbox_go_to : Nat := 54
abbrev di_Inbox_receive : Nat := 55
abbrev di_Inbox_rule : Nat := 56
abbrev di_Inbox_use : Nat := 57
abbrev di_Inbox_marks : Nat := 58
abbrev di_Inbox_groups : Nat := 59
abbrev di_Inbox_version : Nat := 60
abbrev di_Inbox_require_there : Nat := 61
abbrev di_Inbox_shown : Nat := 62
abbrev di_Inbox_below : Nat := 63
abbrev di_Inbox_moves : Nat := 64
abbrev di_Inbox_undo : Nat := 65
abbrev di_Inbox_redo : Nat := 66
abbrev di_Inbox_getitem : Nat := 67
abbrev di_Inbox_len : Nat := 68
abbrev di_Inbox_contains : Nat := 69
abbrev di_Inbox_eq : Nat := 70
abbrev di_Inbox_str : Nat := 71
def fns : List He5.DefA := [d_is_name, d_is_integer, d_is_mark, d_are_signs, d_is_part, d_part_places, d_chain_places, d_kept_places, d_cut, d_require_cutter, d_require_rule, d_is_arrival, d_require_many, d_law_dice, d_law_roll, d_law_one_of, d_law_mixed, d_law_signs, d_law_part, d_law_parts, d_law_kept, d_law_are_neighbours, d_law_reached, d_law_any_arrivals, d_law_page, d_law_is_page, d_law_entry, d_law_moves, d_law_is, d_law_rule_of, d_law_received, d_law_same, d_law_deed, d_law_right, d_law, d_Cutter_init, d_Cutter_of, d_Cutter_parts, d_Cutter_eq, d_Rule_init, d_Rule_cutter, d_Rule_sees_lost, d_Rule_eq, d_Page_init, d_Page_place_of, d_Page_behind, d_Page_holders, d_Page_neighbours, d_Page_distances, d_Page_joined, d_Inbox_init, d_Inbox_of, d_Inbox_page, d_Inbox_turn, d_Inbox_go_to, d_Inbox_receive, d_Inbox_rule, d_Inbox_use, d_Inbox_marks, d_Inbox_groups, d_Inbox_version, d_Inbox_require_there, d_Inbox_shown, d_Inbox_below, d_Inbox_moves, d_Inbox_undo, d_Inbox_redo, d_Inbox_getitem, d_Inbox_len, d_Inbox_contains, d_Inbox_eq, d_Inbox_str]
def glNames0 : List Str := ["is_name", "is_integer", "is_mark", "are_signs", "is_part", "part_places", "chain_places", "kept_places", "cut", "require_cutter", "require_rule", "is_arrival", "require_many", "_law_dice", "_law_roll", "_law_one_of", "_law_mixed", "_law_signs", "_law_part", "_law_parts"]
def glNames1 : List Str := ["_law_kept", "_law_are_neighbours", "_law_reached", "_law_any_arrivals", "_law_page", "_law_is_page", "_law_entry", "_law_moves", "_law_is", "_law_rule_of", "_law_received", "_law_same", "_law_deed", "_law_right", "law", "Cutter", "Rule", "Page", "Inbox", "Known_cutters"]
def glNames : List Str := glNames0 ++ (glNames1)
def mtNames0 : List Str := ["__contains__", "__eq__", "__getitem__", "__init__", "__len__", "__str__", "behind", "below", "cutter", "distances", "go_to", "groups", "holders", "joined", "marks", "moves", "neighbours", "of", "page", "parts"]
def mtNames1 : List Str := ["place_of", "receive", "redo", "require_there", "rule", "sees_lost", "shown", "turn", "undo", "use", "version"]
def mtNames : List Str := mtNames0 ++ (mtNames1)
/-! ### the Hook -/
/-- the entries of the dict at a whose keys are among the names, as addresses -/
def namedAt (g : Addr → Option Obj) (ns : List Str) (a : Addr) : List Addr := match g a with
  | some ⟨_, _, .dict es _, _⟩ => es.toList.filterMap fun e => match e.key, e.val with
    | .str x _, .ref b => if ns.contains x then some b else none
    | _, _ => none
  | _ => []
/-- a class: its names' dict; a def: its code, its keyword defaults; a property, a classmethod: its def -/
def clsNs (g : Addr → Option Obj) (a : Addr) : List Addr := match g a with
  | some ⟨_, _, .cls cd, _⟩ => [cd.ns]
  | _ => []
def fnRefs (g : Addr → Option Obj) (a : Addr) : List Addr := match g a with
  | some ⟨_, _, .func fd, _⟩ => He.refV fd.code ++ He.refV fd.kwdefaults
  | _ => []
def recRefs (g : Addr → Option Obj) (a : Addr) : List Addr := match g a with
  | some ⟨_, _, .fields vs, _⟩ => (vs.toList.take 1).flatMap He.refV
  | _ => []
def frL {α β : Type} : List α → (List α → β) → β
  | [], k => k []
  | a :: l, k => frL l fun l' => k (a :: l')
theorem frL_eq {α β : Type} : ∀ (l : List α) (k : List α → β), frL l k = k l
  | [], _ => rfl
  | a :: l, k => frL_eq l fun l' => k (a :: l')
def asM (g : Addr → Option Obj) : List Addr :=
  frL (namedAt g glNames mainGlobals) fun gs => frL (gs.flatMap (clsNs g)) fun ns => frL (ns.flatMap (namedAt g mtNames)) fun ms => frL (ms.flatMap (recRefs g)) fun ps => frL ((gs ++ (ms ++ ps)).flatMap (fnRefs g)) fun cs =>
    mainGlobals :: cStatics :: (gs ++ (ns ++ (ms ++ (ps ++ cs))))
def obsM (fa : List (Fr → Bool)) (fn : List He5.DefA) (K : Fr) : He.AlD := ((fa.all fun f => f K) && fn.all fun d => d.ok K, fn.map fun d => He5.fnA K (d.at_ K))
def SaysM (fa : List (Fr → Bool)) (fn : List He5.DefA) (K : Fr) : Prop := obsM fa fn K = He5.valA fn
def obsMG (fa : List (Fr → Bool)) (fn : List He5.DefA) (g : Addr → Option Obj) : He.AlD := frL (He.frG g (asM g)) fun K => obsM fa fn K
def hookM (fa : List (Fr → Bool)) (fn : List He5.DefA) : PySem.W.Hook where
  α := He.AlD
  obs := fun s => obsMG fa fn s.heap.get?
  val := fun _ => He5.valA fn
  says := fun _ h => ∃ K : Fr, K.In h ∧ SaysM fa fn K
  of := fun _ s e => ⟨_, He.frG_in, (frL_eq _ _).symm.trans e⟩
  keeps := fun _ _ _ ⟨K, hK, c⟩ k => ⟨K, PySem.W.Frag.In.keeps hK k, c⟩
theorem obsMG_eq {fa : List (Fr → Bool)} {fn : List He5.DefA} {g : Addr → Option Obj} {s : Shared} (h : ∀ a, g a = s.heap.get? a) : obsMG fa fn g = (hookM fa fn).obs s := by
  have e : g = s.heap.get? := funext h
  rw [e] <;> rfl
section
variable {fa : List (Fr → Bool)} {fn : List He5.DefA} {K : Fr}
theorem SaysM.fact (c : SaysM fa fn K) (i : Nat) {f : Fr → Bool} (h : fa[i]? = some f := by rfl) : f K = true := by
  have c1 := (He.ba (show ((fa.all fun f => f K) && fn.all fun d => d.ok K) = true from congrArg (fun z : He.AlD => z.1) c)).1
  exact List.all_eq_true.mp c1 f (List.mem_of_getElem? h)
theorem SaysM.def_ (c : SaysM fa fn K) (i : Nat) {d : He5.DefA} (h : fn[i]? = some d := by rfl) : ∃ fd, FunD K d.name d.qual d.params d.body d.scope (d.dvs K) (d.kws K) (d.at_ K) fd := by
  have c2 := (He.ba (show ((fa.all fun f => f K) && fn.all fun d => d.ok K) = true from congrArg (fun z : He.AlD => z.1) c)).2
  have e : fn.map (fun d => He5.fnA K (d.at_ K)) = fn.map He5.DefA.val := congrArg (fun z : He.AlD => z.2) c
  have e2 : (fn.map fun d => He5.fnA K (d.at_ K))[i]? = (fn.map He5.DefA.val)[i]? := by rw [e]
  rw [List.getElem?_map, List.getElem?_map, h] at e2
  exact He5.DefA.funD (Option.some.inj e2) (List.all_eq_true.mp c2 d (List.mem_of_getElem? h))
end
end K62
set_option maxHeartbeats 0
/-! K62Head: the top by one kernel run, the facts read by the Hook. -/
namespace K62
open PySem PySem.W PySem.Calls PyProof.Rows
abbrev R : PySem.W.OpenRow := PySem.W.OpenLaw.row PySem.Challenge.rw_namedabove_k62_whole_histories_of_inboxe
abbrev qv : Program := view R.prog [101]
def names0 : List PySem.Str := ["_wall", "LetterError", "InvalidCutter", "InvalidCompany", "InvalidBundle", "InvalidRule", "InvalidLetter", "InvalidOperation", "UnknownName", "InvalidNumber", "TooMany", "NothingToUndo", "LETTERS", "LONGEST", "is_name", "is_integer", "is_mark", "is_ascending", "require_flag", "require_number", "MAX_PARTS", "MAX_ROW", "MOST_FRONT", "MOST_BACK", "FEW", "WHOLE", "GAP", "are_signs", "is_part", "part_places"]
def names1 : List PySem.Str := ["chain_places", "Known", "Known_cutters", "Cutter", "kept_places", "cut", "chained", "require_cutter", "MAX_PEOPLE", "is_turn", "are_people", "are_some", "is_pair", "are_turns", "are_copies", "in_order", "Company", "require_company", "require_person", "require_some", "company_in", "MAX_LETTERS", "turn_behind", "is_letter", "are_letters", "lists_in", "talks_in", "checked", "Known_bundles", "Bundle"]
def names2 : List PySem.Str := ["require_bundle", "is_mark_of", "require_mark", "bundle_in", "Rule", "bound_row", "require_rule", "is_arrival", "Page", "Inbox", "require_many", "_law_dice", "_law_roll", "_law_one_of", "_law_mixed", "_law_signs", "_law_part", "_law_parts", "_law_kept", "_law_are_neighbours", "_law_reached", "_law_any_arrivals", "_law_page", "_law_is_page", "_law_entry", "_law_moves", "_law_is", "_law_rule_of", "_law_received", "_law_same"]
def names3 : List PySem.Str := ["_law_deed", "_law_right"]
def names : List PySem.Str := names0 ++ (names1 ++ (names2 ++ (names3)))
abbrev hk : PySem.W.Hook := hookM facts fns
def ob (s : PySem.W.SharedT) : He.AlD := obsMG facts fns (HandSHeadRun.getT s)
theorem ob_eq (s : PySem.W.SharedT) : ob s = hk.obs s.abs := obsMG_eq (HandSHeadRun.getT_eq s)
noncomputable abbrev endQ (w : World) (os : OsState) : Option PySem.W.SharedT := HandSHeadRun.endF (HandSHeadRun.stepQ (HandSHeadRun.denQ HandSHeadRun.tabQ) R.prog w) 11000 R.prog w os
theorem run1 (w : World) (os : OsState) : (endQ w os).map (fun s => (HandSHeadRun.looksF R.prog (boot_heap w.params) s.abs, HandSHeadRun.seenQ qv names (importedModules R.prog.main.body) (fun s => xlAt qv [] s && recOk R.toRowW.records s) s.abs)) = some (true, openGood qv names) := by
  kernel_rfl
theorem run2 (w : World) (os : OsState) : (endQ w os).map (fun s => ob s) = some (He5.valA fns) := by
  kernel_rfl
theorem both {α β γ : Type} {o : Option α} {f : α → β} {g : α → γ} {b : β} {c : γ} (h1 : o.map f = some b) (h2 : o.map g = some c) : o.map (fun a => (f a, g a)) = some (b, c) := by
  cases o with
  | none => cases h1
  | some a => rw [Option.map_some] at h1 h2 ⊢; rw [Option.some.inj h1, Option.some.inj h2]
theorem run (w : World) : HandSHeadRun.RunEq R qv hk ob 11000 names w := by
  intro os
  have h := both (run1 w os) (run2 w os)
  obtain ⟨s, e, q⟩ := Option.map_eq_some_iff.mp h
  refine Option.map_eq_some_iff.mpr ⟨s, e, ?_⟩
  obtain ⟨q1, q2⟩ := Prod.mk.inj q
  obtain ⟨q3, q4⟩ := Prod.mk.inj q1
  rw [q3, q4, q2]
  rfl
end K62
set_option maxHeartbeats 4000000
/-! K62Lay: what a value stands for (Rp), the pure world G beneath the heap H, the mutable cells, what an expression's reading evaluates to. -/
namespace K62
open PySem PySem.Spec PyProof.Rows L2

/-! ### what a value stands for -/
structure Rp where
  ok : V → Hp → Prop
  mono : ∀ {v : V} {G G' : Hp}, Same G G' → ok v G → ok v G'
abbrev Al (rs : List Rp) (xs : List V) (G : Hp) : Prop := Paired (fun (r : Rp) (x : V) => r.ok x G) rs xs
theorem Al.mono {rs : List Rp} {xs : List V} {G G' : Hp} (e : Same G G') (h : Al rs xs G) : Al rs xs G' := Paired.mapP h fun r _ => r.mono e
theorem Al.len {rs : List Rp} {xs : List V} {G : Hp} (h : Al rs xs G) : rs.length = xs.length := Paired.length h
theorem Al.get : ∀ {rs : List Rp} {xs : List V} {G : Hp} {i : Nat} {r : Rp}, Al rs xs G → rs[i]? = some r → ∃ x, xs[i]? = some x ∧ r.ok x G
  | _, _, _, _, _, .nil, e => by simp at e
  | _, _, _, 0, _, .cons h _, e => by simp at e; subst e; exact ⟨_, rfl, h⟩
  | _, _, _, i + 1, _, .cons _ t, e => by
    obtain ⟨x, h1, h2⟩ := Al.get (i := i) t (by simpa using e)
    exact ⟨x, by simpa using h1, h2⟩
theorem Al.get' : ∀ {rs : List Rp} {xs : List V} {G : Hp} {i : Nat} {x : V}, Al rs xs G → xs[i]? = some x → ∃ r, rs[i]? = some r ∧ r.ok x G
  | _, _, _, _, _, .nil, e => by simp at e
  | _, _, _, 0, _, .cons h _, e => by simp at e; subst e; exact ⟨_, rfl, h⟩
  | _, _, _, i + 1, _, .cons _ t, e => by
    obtain ⟨x, h1, h2⟩ := Al.get' (i := i) t (by simpa using e)
    exact ⟨x, by simpa using h1, h2⟩
theorem Al.app : ∀ {rs ss : List Rp} {xs ys : List V} {G : Hp}, Al rs xs G → Al ss ys G → Al (rs ++ ss) (xs ++ ys) G
  | _, _, _, _, _, .nil, s => s
  | _, _, _, _, _, .cons h t, s => .cons h (Al.app t s)
theorem Al.take : ∀ {rs : List Rp} {xs : List V} {G : Hp} (n : Nat), Al rs xs G → Al (rs.take n) (xs.take n) G
  | _, _, _, 0, _ => .nil
  | _, _, _, _ + 1, .nil => .nil
  | _, _, _, n + 1, .cons h t => .cons h (Al.take n t)
theorem Al.drop : ∀ {rs : List Rp} {xs : List V} {G : Hp} (n : Nat), Al rs xs G → Al (rs.drop n) (xs.drop n) G
  | _, _, _, 0, h => h
  | _, _, _, _ + 1, .nil => .nil
  | _, _, _, n + 1, .cons _ t => Al.drop n t
theorem Al.eraseIdx : ∀ {rs : List Rp} {xs : List V} {G : Hp} (n : Nat), Al rs xs G → Al (rs.eraseIdx n) (xs.eraseIdx n) G
  | _, _, _, _, .nil => .nil
  | _, _, _, 0, .cons _ t => t
  | _, _, _, n + 1, .cons h t => .cons h (Al.eraseIdx n t)
def rV (x : V) : Rp := ⟨fun v _ => v = x, fun _ h => h⟩
abbrev rI (i : Int) : Rp := rV (.int i)
abbrev rB (b : Bool) : Rp := rV (.bl b)
abbrev rS (z : Str) : Rp := rV (.str z)
abbrev rN : Rp := rV .non
def rAny : Rp := ⟨fun _ _ => True, fun _ h => h⟩
def rTup (rs : List Rp) : Rp := ⟨fun v G => ∃ a xs, v = .ref a ∧ G a = some (.tup xs) ∧ Al rs xs G, fun e ⟨a, xs, h1, h2, h3⟩ => ⟨a, xs, h1, e _ _ h2, h3.mono e⟩⟩
def rLst (rs : List Rp) : Rp := ⟨fun v G => ∃ a xs, v = .ref a ∧ G a = some (.lst xs) ∧ Al rs xs G, fun e ⟨a, xs, h1, h2, h3⟩ => ⟨a, xs, h1, e _ _ h2, h3.mono e⟩⟩
abbrev AlK (ks : List (Int × Rp)) (xs : List (Key × V)) (G : Hp) : Prop := Paired (fun (p : Int × Rp) (q : Key × V) => q.1 = Sum.inl p.1 ∧ p.2.ok q.2 G) ks xs
theorem AlK.mono {ks : List (Int × Rp)} {xs : List (Key × V)} {G G' : Hp} (e : Same G G') (h : AlK ks xs G) : AlK ks xs G' := Paired.mapP h fun p _ z => ⟨z.1, p.2.mono e z.2⟩
def rDct (ks : List (Int × Rp)) : Rp := ⟨fun v G => ∃ a xs, v = .ref a ∧ G a = some (.dK xs) ∧ AlK ks xs G, fun e ⟨a, xs, h1, h2, h3⟩ => ⟨a, xs, h1, e _ _ h2, h3.mono e⟩⟩
abbrev AlF (fs : List (Str × Rp)) (gs : List (Str × V)) (G : Hp) : Prop := Paired (fun (p : Str × Rp) (q : Str × V) => q.1 = p.1 ∧ p.2.ok q.2 G) fs gs
theorem AlF.mono {fs : List (Str × Rp)} {gs : List (Str × V)} {G G' : Hp} (e : Same G G') (h : AlF fs gs G) : AlF fs gs G' := Paired.mapP h fun p _ z => ⟨z.1, p.2.mono e z.2⟩
def rIns (C : Addr) (fs : List (Str × Rp)) : Rp := ⟨fun v G => ∃ a dx gs, v = .ref a ∧ G a = some (.ins C dx gs) ∧ AlF fs gs G, fun e ⟨a, dx, gs, h1, h2, h3⟩ => ⟨a, dx, gs, h1, e _ _ h2, h3.mono e⟩⟩
def rEx {α : Type} (P : α → Prop) (f : α → Rp) : Rp := ⟨fun v G => ∃ a, P a ∧ (f a).ok v G, fun e ⟨a, h1, h2⟩ => ⟨a, h1, (f a).mono e h2⟩⟩
abbrev rInts (ns : List Int) : Rp := rTup (ns.map rI)
/-- some int of 0 .. n - 1 -/
def rRoll (n : Int) : Rp := rEx (fun k : Int => 0 ≤ k ∧ k < n) rI
/-- one of these -/
def rOne (rs : List Rp) : Rp := rEx (fun r : Rp => r ∈ rs) id
theorem AlF.look : ∀ {fs : List (Str × Rp)} {gs : List (Str × V)} {G : Hp} {f : Str} {r : Rp}, AlF fs gs G → fs.lookup f = some r → ∃ v, gs.lookup f = some v ∧ r.ok v G
  | _, _, _, _, _, .nil, e => by cases e
  | (k, s) :: _, (k', x) :: _, G, f, r, .cons ⟨h1, h2⟩ t, e => by
    have h1 : k' = k := h1
    subst h1
    rw [List.lookup_cons] at e ⊢
    cases q : f == k' with
    | true => rw [q] at e; cases e; exact ⟨x, rfl, h2⟩
    | false => rw [q] at e; exact AlF.look t e
theorem AlF.look0 : ∀ {fs : List (Str × Rp)} {gs : List (Str × V)} {G : Hp} {f : Str}, AlF fs gs G → fs.lookup f = none → gs.lookup f = none
  | _, _, _, _, .nil, _ => rfl
  | (k, s) :: _, (k', x) :: _, G, f, .cons ⟨h1, h2⟩ t, e => by
    have h1 : k' = k := h1
    subst h1
    rw [List.lookup_cons] at e ⊢
    cases q : f == k' with
    | true => rw [q] at e; cases e
    | false => rw [q] at e; exact AlF.look0 t e
def putR (f : Str) (r : Rp) : List (Str × Rp) → List (Str × Rp)
  | [] => [(f, r)]
  | (g, x) :: t => if g = f then (g, r) :: t else (g, x) :: putR f r t
theorem AlF.put : ∀ {fs : List (Str × Rp)} {gs : List (Str × V)} {G : Hp} {f : Str} {r : Rp} {v : V}, AlF fs gs G → r.ok v G → AlF (putR f r fs) (putF f v gs) G
  | _, _, _, _, _, _, .nil, h => .cons ⟨rfl, h⟩ .nil
  | (k, s) :: _, (k', x) :: _, G, f, r, v, .cons ⟨h1, h2⟩ t, h => by
    have h1 : k' = k := h1
    subst h1
    show AlF (if k' = f then _ else _) (if k' = f then _ else _) G
    by_cases q : k' = f
    · rw [if_pos q, if_pos q]; exact .cons ⟨rfl, h⟩ t
    · rw [if_neg q, if_neg q]; exact .cons ⟨rfl, h2⟩ (AlF.put t h)
theorem AlF.len {fs : List (Str × Rp)} {gs : List (Str × V)} {G : Hp} (h : AlF fs gs G) : fs.length = gs.length := Paired.length h

/-! ### dicts by int keys -/
def lookI {α : Type} (k : Int) (ks : List (Int × α)) : Option α := ks.lookup k
def putI {α : Type} (k : Int) (x : α) (ks : List (Int × α)) : List (Int × α) :=
  if (ks.any fun p => decide (p.1 = k)) = true then ks.map (fun p => if p.1 = k then (p.1, x) else p) else ks ++ [(k, x)]
theorem AlK.look : ∀ {ks : List (Int × Rp)} {xs : List (Key × V)} {G : Hp} {k : Int}, AlK ks xs G → match lookI k ks with
    | some r => ∃ v, valV xs (Sum.inl k : Key) = some v ∧ r.ok v G
    | none => valV xs (Sum.inl k : Key) = none
  | _, _, _, _, .nil => rfl
  | (j, r) :: ks, (j', x) :: xs, G, k, .cons ⟨h1, h2⟩ t => by
    have h1 : j' = Sum.inl j := h1
    subst h1
    have ih := AlK.look (k := k) t
    unfold lookI valV at ih ⊢
    rw [List.lookup_cons, List.find?_cons]
    by_cases e : k = j
    · subst e
      simp only [beq_self_eq_true, decide_true, Option.map_some]
      exact ⟨x, rfl, h2⟩
    · have e1 : (k == j) = false := beq_eq_false_iff_ne.mpr e
      have e2 : decide ((Sum.inl j : Key) = Sum.inl k) = false := decide_eq_false fun z => e (Sum.inl.inj z).symm
      rw [e1, e2]
      exact ih

/-! ### the pure world beneath the heap; locked dicts -/
structure ExL (L : List Addr) (G H : Hp) : Prop where
  at_ : ∀ a o, G a = some o → (a ∉ L ∧ H a = some o) ∨ (a ∈ L ∧ (∃ kvs, o = .dK kvs) ∧ ∃ ob, H a = some (.frz ob o))
  lk : ∀ a ∈ L, ∃ o, G a = some o
section
variable {L : List Addr} {G H G' H' : Hp} {a p : Addr} {o : HO} {xs : List V}
theorem ExL.some_ (x : ExL L G H) (h : G a = some o) : ∃ u, H a = some u := by
  rcases x.at_ a o h with ⟨_, e⟩ | ⟨_, _, ob, e⟩ <;> exact ⟨_, e⟩
theorem ExL.free (x : ExL L G H) (h : H a = none) : G a = none := by
  cases e : G a with
  | none => rfl
  | some o => obtain ⟨u, q⟩ := x.some_ e; rw [h] at q; cases q
theorem ExL.tup (x : ExL L G H) (h : G a = some (.tup xs)) : H a = some (.tup xs) := by
  rcases x.at_ a _ h with ⟨_, e⟩ | ⟨_, ⟨_, z⟩, _⟩
  · exact e
  · cases z
theorem ExL.lst (x : ExL L G H) (h : G a = some (.lst xs)) : H a = some (.lst xs) := by
  rcases x.at_ a _ h with ⟨_, e⟩ | ⟨_, ⟨_, z⟩, _⟩
  · exact e
  · cases z
theorem ExL.ins {C dx : Addr} {fs : List (Str × V)} (x : ExL L G H) (h : G a = some (.ins C dx fs)) : H a = some (.ins C dx fs) := by
  rcases x.at_ a _ h with ⟨_, e⟩ | ⟨_, ⟨_, z⟩, _⟩
  · exact e
  · cases z
theorem ExL.dct {kvs : List (Key × V)} (x : ExL L G H) (h : G a = some (.dK kvs)) : Rd H a (.dK kvs) := by
  rcases x.at_ a _ h with ⟨_, e⟩ | ⟨_, _, ob, e⟩
  · exact .inl e
  · exact .inr ⟨ob, e⟩
theorem ExL.dct0 {kvs : List (Key × V)} (x : ExL [] G H) (h : G a = some (.dK kvs)) : H a = some (.dK kvs) := by
  rcases x.at_ a _ h with ⟨_, e⟩ | ⟨z, _, _⟩
  · exact e
  · cases z
theorem ExL.up (x : ExL L G H) (e : ∀ b o, G b ≠ none → H b = some o → H' b = some o) : ExL L G H' := ⟨fun a o h => by
  rcases x.at_ a o h with ⟨n, q⟩ | ⟨n, z, ob, q⟩
  · exact .inl ⟨n, e _ _ (by rw [h]; simp) q⟩
  · exact .inr ⟨n, z, ob, e _ _ (by rw [h]; simp) q⟩, x.lk⟩
theorem ExL.add (x : ExL L G H) (h : H p = none) : ExL L (upd G p o) (upd H p o) := by
  have np : p ∉ L := fun m => by obtain ⟨u, e⟩ := x.lk p m; obtain ⟨u', e'⟩ := x.some_ e; rw [h] at e'; cases e'
  refine ⟨fun a u e => ?_, fun a m => ?_⟩
  · by_cases q : a = p
    · subst q; rw [upd_same] at e ⊢; exact .inl ⟨np, e⟩
    · rw [upd_ne q] at e
      rw [upd_ne q]
      exact x.at_ a u e
  · obtain ⟨u, e⟩ := x.lk a m
    exact ⟨u, by rw [upd_ne (fun z : a = p => np (by rw [← z]; exact m))]; exact e⟩
/-- an object that stands in H alone comes into G -/
theorem ExL.take (x : ExL L G H) (h : G p = none) (ho : H p = some o) : ExL L (upd G p o) H := by
  have np : p ∉ L := fun m => by obtain ⟨u, e⟩ := x.lk p m; rw [h] at e; cases e
  refine ⟨fun a u e => ?_, fun a m => ?_⟩
  · by_cases q : a = p
    · subst q; rw [upd_same] at e; cases e; exact .inl ⟨np, ho⟩
    · rw [upd_ne q] at e
      exact x.at_ a u e
  · obtain ⟨u, e⟩ := x.lk a m
    exact ⟨u, by rw [upd_ne (fun z : a = p => np (by rw [← z]; exact m))]; exact e⟩
end
theorem same_upd {G : Hp} {p : Addr} {o : HO} (h : G p = none) : Same G (upd G p o) := fun b u e => by rw [upd_ne (ne_of_none e h)]; exact e

/-! ### mutable cells -/
inductive Cell where
  | lst (rs : List Rp)
  | dct (ks : List (Int × Rp))
  | ins (C dx : Addr) (fs : List (Str × Rp))
  | dice
inductive CAt (a : Addr) (G H : Hp) : Cell → Prop where
  | lst {rs : List Rp} {xs : List V} (h : H a = some (.lst xs)) (r : Al rs xs G) : CAt a G H (.lst rs)
  | dct {ks : List (Int × Rp)} {xs : List (Key × V)} (h : H a = some (.dK xs)) (r : AlK ks xs G) : CAt a G H (.dct ks)
  | ins {C dx : Addr} {fs : List (Str × Rp)} {gs : List (Str × V)} (h : H a = some (.ins C dx gs)) (r : AlF fs gs G) : CAt a G H (.ins C dx fs)
  | dice {x y z : Int} (h : H a = some (.lst [.int x, .int y, .int z])) (hx : 0 ≤ x) (hy : 0 ≤ y) (hz : 0 ≤ z) : CAt a G H .dice
theorem CAt.some_ {a : Addr} {G H : Hp} {c : Cell} (h : CAt a G H c) : ∃ o, H a = some o := by
  cases h with
  | lst e _ => exact ⟨_, e⟩
  | dct e _ => exact ⟨_, e⟩
  | ins e _ => exact ⟨_, e⟩
  | dice e _ _ _ => exact ⟨_, e⟩
theorem CAt.move {a : Addr} {G H G' H' : Hp} {c : Cell} (h : CAt a G H c) (e : Same G G') (k : H' a = H a) : CAt a G' H' c := by
  cases h with
  | lst h1 h2 => exact .lst (k.trans h1) (h2.mono e)
  | dct h1 h2 => exact .dct (k.trans h1) (h2.mono e)
  | ins h1 h2 => exact .ins (k.trans h1) (h2.mono e)
  | dice h1 h2 h3 h4 => exact .dice (k.trans h1) h2 h3 h4
abbrev Ms : Type := List (Addr × Cell)
structure Mem (ms : Ms) (G H : Hp) : Prop where
  at_ : ∀ p ∈ ms, CAt p.1 G H p.2
  out : ∀ p ∈ ms, G p.1 = none
  nd : (ms.map (·.1)).Nodup

/-! ### what may have changed -/
structure Stp (ds : List Addr) (G H G' H' : Hp) : Prop where
  old : ∀ b o, H b = some o → G' b = G b
  keep : ∀ b o, b ∉ ds → H b = some o → H' b = some o
  there : ∀ b o, H b = some o → ∃ u, H' b = some u
section
variable {ds ds' : List Addr} {G H G1 H1 G2 H2 : Hp} {p : Addr} {o : HO} {L : List Addr}
theorem Stp.refl : Stp ds G H G H := ⟨fun _ _ _ => rfl, fun _ _ _ h => h, fun _ o h => ⟨o, h⟩⟩
theorem Stp.trans (a : Stp ds G H G1 H1) (b : Stp ds G1 H1 G2 H2) : Stp ds G H G2 H2 :=
  ⟨fun c o h => by obtain ⟨u, q⟩ := a.there c o h; rw [b.old c u q, a.old c o h], fun c o n h => b.keep c o n (a.keep c o n h), fun c o h => by obtain ⟨u, q⟩ := a.there c o h; exact b.there c u q⟩
/-- a step that touches what the first base did not know, or what it may change -/
theorem Stp.then_ (a : Stp ds G H G1 H1) (b : Stp ds' G1 H1 G2 H2) (h : ∀ c ∈ ds', c ∈ ds ∨ H c = none) : Stp ds G H G2 H2 :=
  ⟨fun c o q => by obtain ⟨u, z⟩ := a.there c o q; rw [b.old c u z, a.old c o q], fun c o n q => b.keep c o (fun m => by
    rcases h c m with z | z
    · exact n z
    · rw [z] at q; cases q) (a.keep c o n q), fun c o q => by obtain ⟨u, z⟩ := a.there c o q; exact b.there c u z⟩
theorem Stp.new (h : H p = none) : Stp ds G H (upd G p o) (upd H p o) :=
  ⟨fun b u e => upd_ne (ne_of_none e h), fun b u _ e => by rw [upd_ne (ne_of_none e h)]; exact e, fun b u e => ⟨u, by rw [upd_ne (ne_of_none e h)]; exact e⟩⟩
theorem Stp.put {u : HO} (h : H p = some u) : Stp [p] G H G (upd H p o) :=
  ⟨fun _ _ _ => rfl, fun b u n e => by rw [upd_ne (fun z => n (by simp [z]))]; exact e, fun b u e => by
    by_cases q : b = p
    · exact ⟨o, by rw [q, upd_same]⟩
    · exact ⟨u, by rw [upd_ne q]; exact e⟩⟩
theorem Stp.same (a : Stp ds G H G1 H1) (x : ExL L G H) : Same G G1 := fun b o e => by
  obtain ⟨u, q⟩ := x.some_ e
  rw [a.old b u q]
  exact e
end

/-! ### the state -/
structure Bs where
  ds : List Addr
  G : Hp
  H : Hp
abbrev Ct : Type := List (Option Rp)
structure Sl (ctx : Ct) (σ : L2.St) (G : Hp) : Prop where
  len : σ.length = ctx.length
  at_ : ∀ (i : Nat) (r : Rp), ctx[i]? = some (some r) → ∃ v, σ[i]? = some (some v) ∧ r.ok v G
structure Sx (B : Bs) (L : List Addr) (ctx : Ct) (ms : Ms) (σ : L2.St) (G H : Hp) : Prop where
  sl : Sl ctx σ G
  ex : ExL L G H
  mem : Mem ms G H
  stp : Stp B.ds B.G B.H G H
  own : ∀ p ∈ ms, p.1 ∈ B.ds ∨ B.H p.1 = none
theorem Sl.mono {ctx : Ct} {σ : L2.St} {G G' : Hp} (e : Same G G') (s : Sl ctx σ G) : Sl ctx σ G' := ⟨s.len, fun i r h => let ⟨v, h1, h2⟩ := s.at_ i r h; ⟨v, h1, r.mono e h2⟩⟩
theorem Sl.set {ctx : Ct} {σ : L2.St} {G : Hp} {i : Nat} {r : Rp} {v : V} (s : Sl ctx σ G) (h : r.ok v G) : Sl (ctx.set i (some r)) (σ.set i (some v)) G := by
  refine ⟨by rw [List.length_set, List.length_set, s.len], fun j q e => ?_⟩
  by_cases hj : j = i
  · subst hj
    have hl : j < ctx.length := by
      have := (List.getElem?_eq_some_iff.mp e).1
      rwa [List.length_set] at this
    rw [List.getElem?_set_self hl] at e
    cases e
    exact ⟨v, by rw [List.getElem?_set_self (by rw [s.len]; exact hl)], h⟩
  · rw [List.getElem?_set_ne (Ne.symm hj)] at e
    obtain ⟨u, h1, h2⟩ := s.at_ j q e
    exact ⟨u, by rw [List.getElem?_set_ne (Ne.symm hj)]; exact h1, h2⟩
/-- slots forgotten -/
inductive Wk : Ct → Ct → Prop where
  | nil : Wk [] []
  | same {x : Option Rp} {a b : Ct} (h : Wk a b) : Wk (x :: a) (x :: b)
  | drop {x : Option Rp} {a b : Ct} (h : Wk a b) : Wk (x :: a) (none :: b)
theorem Wk.refl : ∀ {a : Ct}, Wk a a
  | [] => .nil
  | _ :: _ => .same Wk.refl
theorem Wk.len : ∀ {a b : Ct}, Wk a b → a.length = b.length
  | _, _, .nil => rfl
  | _, _, .same h => congrArg Nat.succ h.len
  | _, _, .drop h => congrArg Nat.succ h.len
theorem Wk.at_ : ∀ {a b : Ct}, Wk a b → ∀ {i : Nat} {r : Rp}, b[i]? = some (some r) → a[i]? = some (some r)
  | _, _, .nil, _, _, e => by simp at e
  | _, _, .same h, 0, _, e => by simpa using e
  | _, _, .same h, i + 1, _, e => by simp at e ⊢; exact h.at_ e
  | _, _, .drop h, 0, _, e => by simp at e
  | _, _, .drop h, i + 1, _, e => by simp at e ⊢; exact h.at_ e
section
variable {B : Bs} {L : List Addr} {ctx ctx' : Ct} {ms ms' : Ms} {σ : L2.St} {G H G' H' : Hp} {p a : Addr} {o : HO}
theorem Sx.weak (S : Sx B L ctx ms σ G H) (w : Wk ctx ctx') : Sx B L ctx' ms σ G H := ⟨⟨by rw [S.sl.len, w.len], fun i r e => S.sl.at_ i r (w.at_ e)⟩, S.ex, S.mem, S.stp, S.own⟩
theorem Sx.set {i : Nat} {r : Rp} {v : V} (S : Sx B L ctx ms σ G H) (h : r.ok v G) : Sx B L (ctx.set i (some r)) ms (σ.set i (some v)) G H := ⟨S.sl.set h, S.ex, S.mem, S.stp, S.own⟩
theorem Sx.same (S : Sx B L ctx ms σ G H) {L0 : List Addr} (x : ExL L0 B.G B.H) : Same B.G G := S.stp.same x
/-- a new object, pure -/
theorem Sx.new (S : Sx B L ctx ms σ G H) (h : H p = none) : Same G (upd G p o) ∧ Sx B L ctx ms σ (upd G p o) (upd H p o) := by
  have e : Same G (upd G p o) := same_upd (S.ex.free h)
  refine ⟨e, S.sl.mono e, S.ex.add h, ⟨fun q hq => ?_, fun q hq => ?_, S.mem.nd⟩, S.stp.trans (Stp.new h), S.own⟩
  · obtain ⟨u, hu⟩ := (S.mem.at_ q hq).some_
    exact (S.mem.at_ q hq).move e (upd_ne (ne_of_none hu h))
  · obtain ⟨u, hu⟩ := (S.mem.at_ q hq).some_
    rw [upd_ne (ne_of_none hu h)]
    exact S.mem.out q hq
/-- a new object, a cell -/
theorem Sx.newM {c : Cell} (S : Sx B L ctx ms σ G H) (h : H p = none) (hc : CAt p G (upd H p o) c) : Sx B L ctx ((p, c) :: ms) σ G (upd H p o) := by
  have s : Stp B.ds G H G (upd H p o) := ⟨fun _ _ _ => rfl, fun b u _ e => by rw [upd_ne (ne_of_none e h)]; exact e, fun b u e => ⟨u, by rw [upd_ne (ne_of_none e h)]; exact e⟩⟩
  refine ⟨S.sl, S.ex.up fun b u _ e => by rw [upd_ne (ne_of_none e h)]; exact e, ⟨fun q hq => ?_, fun q hq => ?_, ?_⟩, S.stp.trans s, fun q hq => ?_⟩
  · rcases List.mem_cons.mp hq with z | z
    · subst z; exact hc
    · obtain ⟨u, hu⟩ := (S.mem.at_ q z).some_
      exact (S.mem.at_ q z).move (Same.refl G) (upd_ne (ne_of_none hu h))
  · rcases List.mem_cons.mp hq with z | z
    · subst z; exact S.ex.free h
    · exact S.mem.out q z
  · refine List.nodup_cons.mpr ⟨fun m => ?_, S.mem.nd⟩
    obtain ⟨q, hq, e⟩ := List.mem_map.mp m
    obtain ⟨u, hu⟩ := (S.mem.at_ q hq).some_
    rw [e, h] at hu
    cases hu
  · rcases List.mem_cons.mp hq with z | z
    · subst z
      refine .inr ?_
      cases e : B.H p with
      | none => rfl
      | some u => obtain ⟨u', e'⟩ := S.stp.there _ _ e; rw [h] at e'; cases e'
    · exact S.own q z
theorem nodup_at {ms : Ms} (nd : (ms.map (·.1)).Nodup) {j i : Nat} {p q : Addr × Cell} (h1 : ms[j]? = some p) (h2 : ms[i]? = some q) (e : p.1 = q.1) : j = i := by
  have a1 : (ms.map (·.1))[j]? = some p.1 := by rw [List.getElem?_map, h1]; rfl
  have a2 : (ms.map (·.1))[i]? = some p.1 := by rw [List.getElem?_map, h2, e]; rfl
  obtain ⟨l1, e1⟩ := List.getElem?_eq_some_iff.mp a1
  obtain ⟨l2, e2⟩ := List.getElem?_eq_some_iff.mp a2
  exact (List.getElem_inj nd).mp (e1.trans e2.symm)
/-- the j-th cell is written -/
theorem Sx.put {j : Nat} {c c' : Cell} (S : Sx B L ctx ms σ G H) (hj : ms[j]? = some (a, c)) (hc : CAt a G (upd H a o) c') : Sx B L ctx (ms.set j (a, c')) σ G (upd H a o) := by
  have hm : (a, c) ∈ ms := List.mem_of_getElem? hj
  obtain ⟨u, hu⟩ := (S.mem.at_ _ hm).some_
  have hu : H a = some u := hu
  have out : G a = none := S.mem.out _ hm
  have hmap : (ms.set j (a, c')).map (·.1) = ms.map (·.1) := by
    rw [List.map_set]
    refine List.ext_getElem? fun i => ?_
    by_cases e : j = i
    · subst e
      have hl : j < (ms.map (·.1)).length := by rw [List.length_map]; exact (List.getElem?_eq_some_iff.mp hj).1
      rw [List.getElem?_set_self hl, List.getElem?_map, hj]
      rfl
    · rw [List.getElem?_set_ne e]
  have cs : ∀ q ∈ ms.set j (a, c'), q = (a, c') ∨ (q ∈ ms ∧ q.1 ≠ a) := fun q hq => by
    obtain ⟨i, hi⟩ := List.mem_iff_getElem?.mp hq
    by_cases e : j = i
    · subst e
      have hl : j < ms.length := (List.getElem?_eq_some_iff.mp hj).1
      rw [List.getElem?_set_self hl] at hi
      exact .inl (Option.some.inj hi).symm
    · rw [List.getElem?_set_ne e] at hi
      exact .inr ⟨List.mem_of_getElem? hi, fun z => e (nodup_at S.mem.nd hj hi z.symm)⟩
  refine ⟨S.sl, S.ex.up fun b w n e => ?_, ⟨fun q hq => ?_, fun q hq => ?_, by rw [hmap]; exact S.mem.nd⟩, S.stp.then_ (Stp.put hu) fun c hc => ?_, fun q hq => ?_⟩
  · by_cases z : b = a
    · subst z; exact absurd out n
    · rw [upd_ne z]; exact e
  · rcases cs q hq with z | ⟨z, n⟩
    · subst z; exact hc
    · exact (S.mem.at_ q z).move (Same.refl G) (upd_ne n)
  · rcases cs q hq with z | ⟨z, n⟩
    · subst z; exact out
    · exact S.mem.out q z
  · have e : c = a := by simpa using hc
    subst e
    exact S.own _ hm
  · rcases cs q hq with z | ⟨z, n⟩
    · subst z; exact S.own (a, c) hm
    · exact S.own q z
/-- cells forgotten, or in another order -/
theorem Sx.cells (S : Sx B L ctx ms σ G H) (h : ∀ q ∈ ms', q ∈ ms) (nd : (ms'.map (·.1)).Nodup) : Sx B L ctx ms' σ G H :=
  ⟨S.sl, S.ex, ⟨fun q hq => S.mem.at_ q (h q hq), fun q hq => S.mem.out q (h q hq), nd⟩, S.stp, fun q hq => S.own q (h q hq)⟩
def Cell.rp : Cell → Rp
  | .lst rs => rLst rs
  | .dct ks => rDct ks
  | .ins C _ fs => rIns C fs
  | .dice => rAny
/-- a cell of one's own becomes pure -/
theorem Sx.freeze {c : Cell} (S : Sx B L ctx ((a, c) :: ms) σ G H) (hb : B.H a = none) : ∃ G', Same G G' ∧ Sx B L ctx ms σ G' H ∧ c.rp.ok (.ref a) G' := by
  have hm := S.mem.at_ (a, c) List.mem_cons_self
  have out : G a = none := S.mem.out (a, c) List.mem_cons_self
  obtain ⟨u, hu⟩ := hm.some_
  have hu : H a = some u := hu
  have e : Same G (upd G a u) := same_upd out
  have ne : ∀ q ∈ ms, q.1 ≠ a := fun q hq z => (List.nodup_cons.mp S.mem.nd).1 (List.mem_map.mpr ⟨q, hq, z⟩)
  refine ⟨upd G a u, e, ⟨S.sl.mono e, S.ex.take out hu, ⟨fun q hq => (S.mem.at_ q (List.mem_cons_of_mem _ hq)).move e rfl, fun q hq => by rw [upd_ne (ne q hq)]; exact S.mem.out q (List.mem_cons_of_mem _ hq), (List.nodup_cons.mp S.mem.nd).2⟩,
    ⟨fun b w q => ?_, S.stp.keep, S.stp.there⟩, fun q hq => S.own q (List.mem_cons_of_mem _ hq)⟩, ?_⟩
  · have nb : b ≠ a := fun z => by subst z; rw [hb] at q; cases q
    rw [upd_ne nb]
    exact S.stp.old b w q
  · have hm : CAt a G H c := hm
    cases hm with
    | lst h1 h2 => rw [hu] at h1; cases h1; exact ⟨a, _, rfl, upd_same, h2.mono e⟩
    | dct h1 h2 => rw [hu] at h1; cases h1; exact ⟨a, _, rfl, upd_same, h2.mono e⟩
    | ins h1 h2 => rw [hu] at h1; cases h1; exact ⟨a, _, _, rfl, upd_same, h2.mono e⟩
    | dice h1 h2 h3 h4 => exact True.intro
/-- what a slot holds is opened -/
theorem Sx.open_ {α : Type} {P : α → Prop} {f : α → Rp} {i : Nat} (S : Sx B L ctx ms σ G H) (h : ctx[i]? = some (some (rEx P f))) : ∃ x, P x ∧ Sx B L (ctx.set i (some (f x))) ms σ G H := by
  obtain ⟨v, h1, x, hx, hv⟩ := S.sl.at_ i _ h
  refine ⟨x, hx, ⟨⟨by rw [List.length_set]; exact S.sl.len, fun j q e => ?_⟩, S.ex, S.mem, S.stp, S.own⟩⟩
  by_cases hj : j = i
  · subst hj
    rw [List.getElem?_set_self (List.getElem?_eq_some_iff.mp h).1] at e
    cases e
    exact ⟨v, h1, hv⟩
  · rw [List.getElem?_set_ne (Ne.symm hj)] at e
    exact S.sl.at_ j q e
/-- a slot's meaning is turned -/
theorem Sx.turn {r r' : Rp} {i : Nat} (S : Sx B L ctx ms σ G H) (h : ctx[i]? = some (some r)) (hr : ∀ v, r.ok v G → r'.ok v G) : Sx B L (ctx.set i (some r')) ms σ G H := by
  obtain ⟨v, h1, hv⟩ := S.sl.at_ i _ h
  refine ⟨⟨by rw [List.length_set]; exact S.sl.len, fun j q e => ?_⟩, S.ex, S.mem, S.stp, S.own⟩
  by_cases hj : j = i
  · subst hj
    rw [List.getElem?_set_self (List.getElem?_eq_some_iff.mp h).1] at e
    cases e
    exact ⟨v, h1, hr v hv⟩
  · rw [List.getElem?_set_ne (Ne.symm hj)] at e
    exact S.sl.at_ j q e
end
end K62
set_option maxHeartbeats 4000000
/-! K62Ev: what a reading evaluates to. -/
namespace K62
open PySem PySem.Spec PyProof.Rows L2

section
variable (B : Bs) (L : List Addr)
def EvM (te : TE) (ctx : Ct) (ms : Ms) (r : Rp) (ms' : Ms) : Prop := ∀ (σ : L2.St) (G H : Hp), Sx B L ctx ms σ G H → ∀ Q : VK, (∀ v G' H', Same G G' → Sx B L ctx ms' σ G' H' → r.ok v G' → Q v H') → te σ H Q
def EvA (ta : TA) (ctx : Ct) (ms : Ms) (rs : List Rp) (ms' : Ms) : Prop := ∀ (σ : L2.St) (G H : Hp), Sx B L ctx ms σ G H → ∀ Q : List V → Hp → Prop, (∀ vs G' H', Same G G' → Sx B L ctx ms' σ G' H' → Al rs vs G' → Q vs H') → ta σ H Q
def EvT (tt : TT) (ctx : Ct) (ms : Ms) (b : Bool) (ms' : Ms) : Prop := ∀ (σ : L2.St) (G H : Hp), Sx B L ctx ms σ G H → ∀ Q : Bool → Hp → Prop, (∀ G' H', Same G G' → Sx B L ctx ms' σ G' H' → Q b H') → tt σ H Q
/-- an operation on values -/
def RvM (rr : R2) (r1 r2 : Rp) (ctx : Ct) (ms : Ms) (r3 : Rp) (ms' : Ms) : Prop := ∀ (σ : L2.St) (G H : Hp) (x y : V), Sx B L ctx ms σ G H → r1.ok x G → r2.ok y G → ∀ Q : VK, (∀ v G' H', Same G G' → Sx B L ctx ms' σ G' H' → r3.ok v G' → Q v H') → rr x y H Q
/-- a call on values -/
def RcM (rr : List V → Hp → VK → Prop) (rs : List Rp) (ctx : Ct) (ms : Ms) (r3 : Rp) (ms' : Ms) : Prop := ∀ (σ : L2.St) (G H : Hp) (xs : List V), Sx B L ctx ms σ G H → Al rs xs G → ∀ Q : VK, (∀ v G' H', Same G G' → Sx B L ctx ms' σ G' H' → r3.ok v G' → Q v H') → rr xs H Q
end
section
variable {B : Bs} {L : List Addr} {ctx : Ct} {ms ms1 ms2 ms3 : Ms} {ta tb te tc : TE} {r r1 r2 r3 : Rp} {rr rr2 : R2} {K : PySem.W.Frag} {t u : TT} {b : Bool}

/-! ### expressions -/
theorem ev_var {i : Nat} (h : ctx[i]? = some (some r)) : EvM B L (tVar i) ctx ms r ms := fun σ G H S Q k => by
  obtain ⟨v, e, hv⟩ := S.sl.at_ i r h
  exact ⟨v, e, k v G H (Same.refl G) S hv⟩
theorem ev_c {v : V} : EvM B L (tC v) ctx ms (rV v) ms := fun σ G H S Q k => k v G H (Same.refl G) S rfl
theorem ev_imp (h : EvM B L te ctx ms r ms1) (hr : ∀ v G, r.ok v G → r2.ok v G) : EvM B L te ctx ms r2 ms1 := fun σ G H S Q k => h σ G H S Q fun v G' H' e S' q => k v G' H' e S' (hr v G' q)
theorem ev_is (h : EvM B L te ctx ms r ms1) (e : r = r2) : EvM B L te ctx ms r2 ms1 := e ▸ h
theorem ev_op (ha : EvM B L ta ctx ms r1 ms1) (hb : EvM B L tb ctx ms1 r2 ms2) (hr : RvM B L rr r1 r2 ctx ms2 r3 ms3) : EvM B L (tOp rr ta tb) ctx ms r3 ms3 := fun σ G H S Q k =>
  ha σ G H S _ fun x G1 H1 e1 S1 q1 => hb σ G1 H1 S1 _ fun y G2 H2 e2 S2 q2 => hr σ G2 H2 x y S2 (r1.mono e2 q1) q2 Q fun v G3 H3 e3 S3 q3 => k v G3 H3 (e1.trans (e2.trans e3)) S3 q3
theorem rv_val {x y z : V} (h : ∀ (H : Hp) (Q : VK), Q z H → rr x y H Q) : RvM B L rr (rV x) (rV y) ctx ms (rV z) ms := fun σ G H x' y' S h1 h2 Q k => by
  have e1 : x' = x := h1
  have e2 : y' = y := h2
  subst e1 e2
  exact h H Q (k z G H (Same.refl G) S rfl)
theorem rv_I0 {g : Int → Int → V} {i j : Int} : RvM B L (rI0 g) (rI i) (rI j) ctx ms (rV (g i j)) ms := rv_val fun _ _ q => ⟨i, j, rfl, rfl, q⟩
theorem rv_Ic {C : Int → Int → Prop} {g : Int → Int → V} {i j : Int} (hc : C i j) : RvM B L (L2.rI C g) (rI i) (rI j) ctx ms (rV (g i j)) ms := rv_val fun _ _ q => ⟨i, j, rfl, rfl, hc, q⟩
theorem rv_eq {x y : V} (h : scal x y = true) : RvM B L rEq (rV x) (rV y) ctx ms (rB (decide (x = y))) ms := rv_val fun _ _ q => ⟨h, q⟩
theorem rv_ne {x y : V} (h : scal x y = true) : RvM B L rNe (rV x) (rV y) ctx ms (rB (!decide (x = y))) ms := rv_val fun _ _ q => ⟨h, q⟩
theorem ev_andV {a c : Bool} (h1 : EvM B L ta ctx ms (rB a) ms1) (h2 : a = true → EvM B L tb ctx ms1 (rB c) ms1) : EvM B L (tAndV ta tb) ctx ms (rB (a && c)) ms1 := fun σ G H S Q k =>
  h1 σ G H S _ fun x G1 H1 e1 S1 q1 => ⟨a, q1, by
    cases a with
    | true => exact h2 rfl σ G1 H1 S1 Q fun v G2 H2 e2 S2 q2 => k v G2 H2 (e1.trans e2) S2 q2
    | false => exact k _ G1 H1 e1 S1 rfl⟩
theorem ev_orV {a c : Bool} (h1 : EvM B L ta ctx ms (rB a) ms1) (h2 : a = false → EvM B L tb ctx ms1 (rB c) ms1) : EvM B L (tOrV ta tb) ctx ms (rB (a || c)) ms1 := fun σ G H S Q k =>
  h1 σ G H S _ fun x G1 H1 e1 S1 q1 => ⟨a, q1, by
    cases a with
    | false => exact h2 rfl σ G1 H1 S1 Q fun v G2 H2 e2 S2 q2 => k v G2 H2 (e1.trans e2) S2 q2
    | true => exact k _ G1 H1 e1 S1 rfl⟩
theorem ev_notV {a : Bool} (h1 : EvM B L ta ctx ms (rB a) ms1) : EvM B L (tNotV ta) ctx ms (rB (!a)) ms1 := fun σ G H S Q k => h1 σ G H S _ fun x G1 H1 e1 S1 q1 => ⟨a, q1, k _ G1 H1 e1 S1 rfl⟩
theorem ev_if (h : EvT B L t ctx ms b ms1) (h1 : b = true → EvM B L ta ctx ms1 r ms2) (h2 : b = false → EvM B L tb ctx ms1 r ms2) : EvM B L (tIf t ta tb) ctx ms r ms2 := fun σ G H S Q k =>
  h σ G H S _ fun G1 H1 e1 S1 => by
    cases b with
    | true => exact h1 rfl σ G1 H1 S1 Q fun v G2 H2 e2 S2 q2 => k v G2 H2 (e1.trans e2) S2 q2
    | false => exact h2 rfl σ G1 H1 S1 Q fun v G2 H2 e2 S2 q2 => k v G2 H2 (e1.trans e2) S2 q2
theorem ev_chain {a c : Bool} (h1 : EvM B L ta ctx ms r1 ms) (h2 : EvM B L tb ctx ms r2 ms) (hr : RvM B L rr r1 r2 ctx ms (rB a) ms) (h3 : a = true → EvM B L tc ctx ms r3 ms) (hr2 : a = true → RvM B L rr2 r2 r3 ctx ms (rB c) ms) : EvM B L (tChain rr rr2 ta tb tc) ctx ms (rB (a && c)) ms := fun σ G H S Q k =>
  h1 σ G H S _ fun x G1 H1 e1 S1 q1 => h2 σ G1 H1 S1 _ fun y G2 H2 e2 S2 q2 => hr σ G2 H2 x y S2 (r1.mono e2 q1) q2 _ fun z G3 H3 e3 S3 q3 => ⟨a, q3, by
    cases a with
    | true => exact h3 rfl σ G3 H3 S3 _ fun w G4 H4 e4 S4 q4 => hr2 rfl σ G4 H4 y w S4 (r2.mono (e3.trans e4) q2) q4 Q fun v G5 H5 e5 S5 q5 => k v G5 H5 (e1.trans (e2.trans (e3.trans (e4.trans e5)))) S5 q5
    | false => exact k _ G3 H3 (e1.trans (e2.trans e3)) S3 rfl⟩

/-! ### tests -/
theorem et_val (h : EvM B L te ctx ms (rB b) ms1) : EvT B L (tTest te) ctx ms b ms1 := fun σ G H S Q k => h σ G H S _ fun x G1 H1 e1 S1 q1 => ⟨b, q1, k G1 H1 e1 S1⟩
theorem et_B (h : EvM B L te ctx ms (rB b) ms1) : EvT B L (tB te) ctx ms b ms1 := fun σ G H S Q k => h σ G H S _ fun x G1 H1 e1 S1 q1 => ⟨b, q1, k G1 H1 e1 S1⟩
theorem et_yes : EvT B L tYes ctx ms true ms := fun σ G H S Q k => k G H (Same.refl G) S
theorem et_and {a c : Bool} (h1 : EvT B L t ctx ms a ms1) (h2 : a = true → EvT B L u ctx ms1 c ms1) : EvT B L (tAnd t u) ctx ms (a && c) ms1 := fun σ G H S Q k =>
  h1 σ G H S _ fun G1 H1 e1 S1 => by
    cases a with
    | true => exact h2 rfl σ G1 H1 S1 Q fun G2 H2 e2 S2 => k G2 H2 (e1.trans e2) S2
    | false => exact k G1 H1 e1 S1
theorem et_or {a c : Bool} (h1 : EvT B L t ctx ms a ms1) (h2 : a = false → EvT B L u ctx ms1 c ms1) : EvT B L (tOr t u) ctx ms (a || c) ms1 := fun σ G H S Q k =>
  h1 σ G H S _ fun G1 H1 e1 S1 => by
    cases a with
    | false => exact h2 rfl σ G1 H1 S1 Q fun G2 H2 e2 S2 => k G2 H2 (e1.trans e2) S2
    | true => exact k G1 H1 e1 S1
theorem et_not {a : Bool} (h : EvT B L t ctx ms a ms1) : EvT B L (tNot t) ctx ms (!a) ms1 := fun σ G H S Q k => h σ G H S _ fun G1 H1 e1 S1 => k G1 H1 e1 S1
theorem et_is {a : Bool} (h : EvT B L t ctx ms a ms1) (e : a = b) : EvT B L t ctx ms b ms1 := e ▸ h

/-! ### arguments, displays -/
theorem ea_nil : EvA B L tNil ctx ms [] ms := fun σ G H S Q k => k [] G H (Same.refl G) S .nil
theorem ea_cons {tr : TA} {rs : List Rp} (h : EvM B L te ctx ms r ms1) (hr : EvA B L tr ctx ms1 rs ms2) : EvA B L (tCons te tr) ctx ms (r :: rs) ms2 := fun σ G H S Q k =>
  h σ G H S _ fun x G1 H1 e1 S1 q1 => hr σ G1 H1 S1 _ fun xs G2 H2 e2 S2 q2 => k (x :: xs) G2 H2 (e1.trans e2) S2 (.cons (r.mono e2 q1) q2)
/-- *e: a pure tuple, a pure list -/
theorem ea_starT {tr : TA} {rs ss : List Rp} (h : EvM B L te ctx ms (rTup ss) ms1) (hr : EvA B L tr ctx ms1 rs ms2) : EvA B L (StX.tStar K te tr) ctx ms (ss ++ rs) ms2 := fun σ G H S Q k =>
  h σ G H S _ fun x G1 H1 e1 S1 ⟨a, xs, ex, ha, hal⟩ => ⟨a, xs, ex, .inl (SqT.of (S1.ex.tup ha)), hr σ G1 H1 S1 _ fun ys G2 H2 e2 S2 q2 => k _ G2 H2 (e1.trans e2) S2 ((hal.mono e2).app q2)⟩
theorem ea_starL {tr : TA} {rs ss : List Rp} (h : EvM B L te ctx ms (rLst ss) ms1) (hr : EvA B L tr ctx ms1 rs ms2) : EvA B L (StX.tStar K te tr) ctx ms (ss ++ rs) ms2 := fun σ G H S Q k =>
  h σ G H S _ fun x G1 H1 e1 S1 ⟨a, xs, ex, ha, hal⟩ => ⟨a, xs, ex, .inr (SqL.of (S1.ex.lst ha)), hr σ G1 H1 S1 _ fun ys G2 H2 e2 S2 q2 => k _ G2 H2 (e1.trans e2) S2 ((hal.mono e2).app q2)⟩
theorem line_of {n : Nat} (h : n ≤ 100000) : n ≤ sizeLine := Nat.le_trans h (by decide)
theorem line_lt {n : Nat} (h : n < 100000) : n < sizeLine := Nat.lt_of_lt_of_le h (by decide)
theorem ev_tup {tl : TA} {rs : List Rp} (h : EvA B L tl ctx ms rs ms1) (hl : rs.length ≤ 100000) : EvM B L (tTup tl) ctx ms (rTup rs) ms1 := fun σ G H S Q k =>
  h σ G H S _ fun xs G1 H1 e1 S1 q1 => ⟨line_of (by rw [← q1.len]; exact hl), fun p hp => by
    obtain ⟨e2, S2⟩ := S1.new (o := .tup xs) hp
    exact k _ _ _ (e1.trans e2) S2 ⟨p, xs, rfl, upd_same, q1.mono e2⟩⟩
theorem ev_lst {tl : TA} {rs : List Rp} (h : EvA B L tl ctx ms rs ms1) (hl : rs.length ≤ 100000) : EvM B L (tLst tl) ctx ms (rLst rs) ms1 := fun σ G H S Q k =>
  h σ G H S _ fun xs G1 H1 e1 S1 q1 => ⟨line_of (by rw [← q1.len]; exact hl), fun p hp => by
    obtain ⟨e2, S2⟩ := S1.new (o := .lst xs) hp
    exact k _ _ _ (e1.trans e2) S2 ⟨p, xs, rfl, upd_same, q1.mono e2⟩⟩
theorem ev_cb {rc : List V → Hp → VK → Prop} {tl : TA} {rs : List Rp} (h : EvA B L tl ctx ms rs ms1) (hr : RcM B L rc rs ctx ms1 r ms2) : EvM B L (tCB rc tl) ctx ms r ms2 := fun σ G H S Q k =>
  h σ G H S _ fun xs G1 H1 e1 S1 q1 => hr σ G1 H1 xs S1 q1 Q fun v G2 H2 e2 S2 q2 => k v G2 H2 (e1.trans e2) S2 q2
theorem al1 {x : List V} {G : Hp} (h : Al [r] x G) : ∃ v, x = [v] ∧ r.ok v G := by
  cases h with
  | cons h t => cases t; exact ⟨_, rfl, h⟩
theorem al2 {x : List V} {G : Hp} (h : Al [r1, r2] x G) : ∃ v w, x = [v, w] ∧ r1.ok v G ∧ r2.ok w G := by
  cases h with
  | cons h t =>
    cases t with
    | cons h' t => cases t; exact ⟨_, _, rfl, h, h'⟩
theorem al3 {x : List V} {G : Hp} (h : Al [r1, r2, r3] x G) : ∃ v w z, x = [v, w, z] ∧ r1.ok v G ∧ r2.ok w G ∧ r3.ok z G := by
  cases h with
  | cons h t =>
    obtain ⟨w, z, rfl, a, b⟩ := al2 t
    exact ⟨_, _, _, rfl, h, a, b⟩

theorem al_rV {α : Type} {g : α → V} : ∀ {l : List α} {ys : List V} {G : Hp}, Al (l.map fun a => rV (g a)) ys G → ys = l.map g
  | [], _, _, .nil => rfl
  | b :: l, _, G, .cons h t => by rw [List.map_cons, al_rV t, show _ = g b from h]
theorem al_of_rV {α : Type} {g : α → V} : ∀ (l : List α) (G : Hp), Al (l.map fun a => rV (g a)) (l.map g) G
  | [], _ => .nil
  | _ :: l, G => .cons rfl (al_of_rV l G)

/-! ### built-ins -/
theorem rc_val {rc : List V → Hp → VK → Prop} {x z : V} (h : ∀ (H : Hp) (Q : VK), Q z H → rc [x] H Q) : RcM B L rc [rV x] ctx ms (rV z) ms := fun σ G H xs S hal Q k => by
  obtain ⟨v, rfl, e⟩ := al1 hal
  have e : v = x := e
  subst e
  exact h H Q (k z G H (Same.refl G) S rfl)
def rLen (K : PySem.W.Frag) : List V → Hp → VK → Prop := fun xs H Q => ∃ x n, xs = [x] ∧ LenV K x H n ∧ Q (.int n) H
theorem rc_lenT {rs : List Rp} : RcM B L (fun xs H Q => ∃ x n, xs = [x] ∧ LenV K x H n ∧ Q (.int n) H) [rTup rs] ctx ms (rI rs.length) ms := fun σ G H xs S hal Q k => by
  obtain ⟨v, rfl, a, ys, e, ha, hal⟩ := al1 hal
  exact ⟨v, ys.length, rfl, by subst e; exact .inr ⟨ys, SqT.of (S.ex.tup ha), rfl⟩, k _ G H (Same.refl G) S (by show V.int _ = V.int _; rw [hal.len])⟩
theorem rc_lenL {rs : List Rp} : RcM B L (fun xs H Q => ∃ x n, xs = [x] ∧ LenV K x H n ∧ Q (.int n) H) [rLst rs] ctx ms (rI rs.length) ms := fun σ G H xs S hal Q k => by
  obtain ⟨v, rfl, a, ys, e, ha, hal⟩ := al1 hal
  exact ⟨v, ys.length, rfl, by subst e; exact .inl ⟨ys, SqL.of (S.ex.lst ha), rfl⟩, k _ G H (Same.refl G) S (by show V.int _ = V.int _; rw [hal.len])⟩
theorem rc_lenS {z : Str} (hz : z.length ≤ 100000) : RcM B L (fun xs H Q => ∃ x n, xs = [x] ∧ LenV K x H n ∧ Q (.int n) H) [rS z] ctx ms (rI z.length) ms :=
  rc_val fun H Q q => ⟨.str z, z.length, rfl, ⟨line_of hz, rfl⟩, q⟩
/-- len of a cell -/
theorem rc_lenM {a : Addr} {rs : List Rp} {j : Nat} (hj : ms[j]? = some (a, .lst rs)) : RcM B L (fun xs H Q => ∃ x n, xs = [x] ∧ LenV K x H n ∧ Q (.int n) H) [rV (.ref a)] ctx ms (rI rs.length) ms := fun σ G H xs S hal Q k => by
  obtain ⟨v, rfl, e⟩ := al1 hal
  have e : v = .ref a := e
  subst e
  have c : CAt a G H (.lst rs) := S.mem.at_ _ (List.mem_of_getElem? hj)
  cases c with
  | @lst _ ys ha hal => exact ⟨_, ys.length, rfl, .inl ⟨ys, SqL.of ha, rfl⟩, k _ G H (Same.refl G) S (by show V.int _ = V.int _; rw [hal.len])⟩
theorem rc_lenD {rs : List (Int × Rp)} : RcM B [] (fun xs H Q => ∃ a kvs, xs = [V.ref a] ∧ H a = some (.dK kvs) ∧ Q (.int kvs.length) H) [rDct rs] ctx ms (rI rs.length) ms := fun σ G H xs S hal Q k => by
  obtain ⟨v, rfl, a, ys, e, ha, hal2⟩ := al1 hal
  subst e
  exact ⟨a, ys, rfl, S.ex.dct0 ha, k _ G H (Same.refl G) S (by show V.int _ = V.int _; rw [Paired.length hal2])⟩
theorem rc_lenDM {a : Addr} {rs : List (Int × Rp)} {j : Nat} (hj : ms[j]? = some (a, .dct rs)) : RcM B L (fun xs H Q => ∃ a kvs, xs = [V.ref a] ∧ H a = some (.dK kvs) ∧ Q (.int kvs.length) H) [rV (.ref a)] ctx ms (rI rs.length) ms := fun σ G H xs S hal Q k => by
  obtain ⟨v, rfl, e⟩ := al1 hal
  have e : v = .ref a := e
  subst e
  have c : CAt a G H (.dct rs) := S.mem.at_ _ (List.mem_of_getElem? hj)
  cases c with
  | dct ha hal => exact ⟨_, _, rfl, ha, k _ G H (Same.refl G) S (by show V.int _ = V.int _; rw [Paired.length hal])⟩
theorem rc_all {bs : List Bool} : RcM B L (fun vs H Q => ∃ (a : Addr) (bs : List Bool), vs = [V.ref a] ∧ SqL K H a (bs.map V.bl) ∧ Q (.bl (bs.all id)) H) [rLst (bs.map rB)] ctx ms (rB (bs.all id)) ms := fun σ G H xs S hal Q k => by
  obtain ⟨v, rfl, a, ys, e, ha, hal2⟩ := al1 hal
  subst e
  have e2 : ys = bs.map V.bl := al_rV hal2
  exact ⟨a, bs, rfl, by rw [← e2]; exact SqL.of (S.ex.lst ha), k _ G H (Same.refl G) S rfl⟩

/-! ### items -/
theorem rv_ixT {rs : List Rp} {i : Int} {k : Nat} (hi : i = k) (h : rs[k]? = some r) : RvM B L (rIxT K) (rTup rs) (rI i) ctx ms r ms := fun σ G H x y S ⟨a, xs, ex, ha, hal⟩ hy Q q => by
  obtain ⟨v, hv, hr⟩ := hal.get h
  have hy : y = .int i := hy
  subst ex hy hi
  exact ⟨a, xs, k, v, rfl, rfl, SqT.of (S.ex.tup ha), atI_nat hv, q v G H (Same.refl G) S hr⟩
theorem rv_ixL {rs : List Rp} {i : Int} {k : Nat} (hi : i = k) (h : rs[k]? = some r) : RvM B L (rIxL K) (rLst rs) (rI i) ctx ms r ms := fun σ G H x y S ⟨a, xs, ex, ha, hal⟩ hy Q q => by
  obtain ⟨v, hv, hr⟩ := hal.get h
  have hy : y = .int i := hy
  subst ex hy hi
  exact ⟨a, xs, k, v, rfl, rfl, SqL.of (S.ex.lst ha), atI_nat hv, q v G H (Same.refl G) S hr⟩
theorem rv_ixS {z : Str} {i : Int} {k : Nat} {c : Nat} (hi : i = k) (hz : z.length ≤ 100000) (h : z.cps.toList[k]? = some c) : RvM B L rIxS (rS z) (rI i) ctx ms (rS ⟨#[c]⟩) ms := by
  subst hi
  exact rv_val fun _ _ q => ⟨z, k, c, rfl, rfl, line_of hz, atI_nat h, q⟩
theorem rv_ixM {a : Addr} {rs : List Rp} {i : Int} {k j : Nat} (hj : ms[j]? = some (a, .lst rs)) (hi : i = k) (h : rs[k]? = some r) : RvM B L (rIxL K) (rV (.ref a)) (rI i) ctx ms r ms := fun σ G H x y S hx hy Q q => by
  have c : CAt a G H (.lst rs) := S.mem.at_ _ (List.mem_of_getElem? hj)
  cases c with
  | lst ha hal =>
    obtain ⟨v, hv, hr⟩ := hal.get h
    have hx : x = .ref a := hx
    have hy : y = .int i := hy
    subst hx hy hi
    exact ⟨a, _, k, v, rfl, rfl, SqL.of ha, atI_nat hv, q v G H (Same.refl G) S hr⟩
/-- an attribute of a pure instance -/
theorem ev_fld {C : Addr} {fs : List (Str × Rp)} {f : Str} (h : EvM B L ta ctx ms (rIns C fs) ms1) (c : Cls K C) (n : NoAttr K C f) (hf : fs.lookup f = some r) : EvM B L (tFld K ta f) ctx ms r ms1 := fun σ G H S Q k =>
  h σ G H S _ fun x G1 H1 e1 S1 ⟨a, dx, gs, ex, ha, hal⟩ => by
    obtain ⟨v, hv, hr⟩ := hal.look hf
    exact ⟨a, C, dx, gs, v, ex, S1.ex.ins ha, c, n, hv, k v G1 H1 e1 S1 hr⟩
theorem ev_fldM {C dx a : Addr} {fs : List (Str × Rp)} {f : Str} {j : Nat} (h : EvM B L ta ctx ms (rV (.ref a)) ms1) (hj : ms1[j]? = some (a, .ins C dx fs)) (c : Cls K C) (n : NoAttr K C f) (hf : fs.lookup f = some r) : EvM B L (tFld K ta f) ctx ms r ms1 := fun σ G H S Q k =>
  h σ G H S _ fun x G1 H1 e1 S1 ex => by
    have q : CAt a G1 H1 (.ins C dx fs) := S1.mem.at_ _ (List.mem_of_getElem? hj)
    cases q with
    | @ins _ _ _ gs ha hal =>
      obtain ⟨v, hv, hr⟩ := hal.look hf
      exact ⟨a, C, dx, gs, v, ex, ha, c, n, hv, k v G1 H1 e1 S1 hr⟩

/-! ### statements -/
variable {D : Ends} {ts tw : TS} {σ : L2.St} {G H : Hp} {i : Nat}
theorem st_set (h : EvM B L te ctx ms r ms1) (S : Sx B L ctx ms σ G H) (k : ∀ σ' G' H', Same G G' → Sx B L (ctx.set i (some r)) ms1 σ' G' H' → D.nx σ' H') : tAsg te (gName i) D σ H :=
  h σ G H S _ fun v G1 H1 e1 S1 q => k _ G1 H1 e1 (S1.set q)
theorem st_ret (h : EvM B L te ctx ms r ms1) (S : Sx B L ctx ms σ G H) (k : ∀ v G' H', Same G G' → Sx B L ctx ms1 σ G' H' → r.ok v G' → D.rt v H') : tRet te D σ H := h σ G H S _ k
theorem st_drop (h : EvM B L te ctx ms r ms1) (S : Sx B L ctx ms σ G H) (k : ∀ G' H', Same G G' → Sx B L ctx ms1 σ G' H' → D.nx σ H') : tDrop te D σ H := h σ G H S _ fun v G1 H1 e1 S1 _ => k G1 H1 e1 S1
theorem st_if (h : EvT B L t ctx ms b ms1) (S : Sx B L ctx ms σ G H) (h1 : b = true → ∀ G' H', Same G G' → Sx B L ctx ms1 σ G' H' → ts D σ H') (h2 : b = false → ∀ G' H', Same G G' → Sx B L ctx ms1 σ G' H' → tw D σ H') : tIfS t ts tw D σ H :=
  h σ G H S _ fun G1 H1 e1 S1 => by
    cases b with
    | true => exact h1 rfl G1 H1 e1 S1
    | false => exact h2 rfl G1 H1 e1 S1
/-- the test says False -/
theorem st_ifF (h : EvT B L t ctx ms false ms1) (S : Sx B L ctx ms σ G H) (h2 : ∀ G' H', Same G G' → Sx B L ctx ms1 σ G' H' → tw D σ H') : tIfS t ts tw D σ H := st_if h S (fun z => nomatch z) fun _ => h2
theorem st_ifT (h : EvT B L t ctx ms true ms1) (S : Sx B L ctx ms σ G H) (h2 : ∀ G' H', Same G G' → Sx B L ctx ms1 σ G' H' → ts D σ H') : tIfS t ts tw D σ H := st_if h S (fun _ => h2) fun z => nomatch z
end
end K62
set_option maxHeartbeats 4000000
/-! K62Call: what a call promises, and how it is used. -/
namespace K62
open PySem PySem.Spec PyProof.Rows L2

/-- what a call promises: arguments like these, these cells in, these cells out, a value like this -/
def Pr (L : List Addr) (ar : List Rp) (mi mo : Ms) (res : Rp) (vs : List V) (H : Hp) (Q : VK) : Prop :=
  ∃ G, ExL L G H ∧ Al ar vs G ∧ Mem mi G H ∧ ∀ v G' H', Stp (mi.map (·.1)) G H G' H' → ExL L G' H' → Mem mo G' H' → res.ok v G' → Q v H'
/-- a def's promise over data x -/
def spF {α : Type} (pre : α → List Addr → Prop) (ar : α → List Rp) (mi mo : α → Ms) (res : α → Rp) : Sp := fun vs H Q _ => ∃ (x : α) (L : List Addr), pre x L ∧ Pr L (ar x) (mi x) (mo x) (res x) vs H Q
/-- .. without cells -/
abbrev spP {α : Type} (pre : α → List Addr → Prop) (ar : α → List Rp) (res : α → Rp) : Sp := spF pre ar (fun _ => []) (fun _ => []) res
theorem mem_nil {G H : Hp} : Mem [] G H := ⟨fun _ h => absurd h List.not_mem_nil, fun _ h => absurd h List.not_mem_nil, List.nodup_nil⟩
section
variable {B : Bs} {L : List Addr} {ctx : Ct} {ms ms1 ms2 ms3 : Ms} {ta tb te tc : TE} {tl : TA} {r r1 r2 r3 res : Rp} {K : PySem.W.Frag} {E : XK} {σ : L2.St} {G H : Hp} {vs : List V} {Q : VK} {ar : List Rp} {mi mo : Ms}
theorem pr_use0 (S : Sx B L ctx ms σ G H) (hal : Al ar vs G) (k : ∀ v G' H', Same G G' → Sx B L ctx ms σ G' H' → res.ok v G' → Q v H') : Pr L ar [] [] res vs H Q := by
  refine ⟨G, S.ex, hal, mem_nil, fun v G' H' s x _ hr => ?_⟩
  have e : Same G G' := s.same S.ex
  refine k v G' H' e ⟨S.sl.mono e, x, ⟨fun p hp => ?_, fun p hp => ?_, S.mem.nd⟩, S.stp.then_ s (fun c h => absurd h (by simp)), S.own⟩ hr
  · obtain ⟨u, hu⟩ := (S.mem.at_ p hp).some_
    exact (S.mem.at_ p hp).move e ((s.keep _ _ (by simp) hu).trans hu.symm)
  · obtain ⟨u, hu⟩ := (S.mem.at_ p hp).some_
    rw [s.old _ _ hu]
    exact S.mem.out p hp
theorem mem_one {a : Addr} {c : Cell} {G H : Hp} (h : CAt a G H c) (ho : G a = none) : Mem [(a, c)] G H :=
  ⟨fun p hp => by rw [List.mem_singleton.mp hp]; exact h, fun p hp => by rw [List.mem_singleton.mp hp]; exact ho, by simp⟩
theorem mem_get {ms : Ms} {a : Addr} {c : Cell} {j : Nat} (m : Mem ms G H) (h : ms[j]? = some (a, c)) : CAt a G H c ∧ G a = none := ⟨m.at_ _ (List.mem_of_getElem? h), m.out _ (List.mem_of_getElem? h)⟩
theorem pr_use1 {a : Addr} {c c' : Cell} {j : Nat} (hj : ms[j]? = some (a, c)) (S : Sx B L ctx ms σ G H) (hal : Al ar vs G) (k : ∀ v G' H', Same G G' → Sx B L ctx (ms.set j (a, c')) σ G' H' → res.ok v G' → Q v H') : Pr L ar [(a, c)] [(a, c')] res vs H Q := by
  obtain ⟨h1, h2⟩ := mem_get S.mem hj
  refine ⟨G, S.ex, hal, mem_one h1 h2, fun v G' H' s x m hr => ?_⟩
  have e : Same G G' := s.same S.ex
  have hm : (a, c) ∈ ms := List.mem_of_getElem? hj
  have hmap : (ms.set j (a, c')).map (·.1) = ms.map (·.1) := by
    rw [List.map_set]
    refine List.ext_getElem? fun i => ?_
    by_cases e : j = i
    · subst e
      have hl : j < (ms.map (·.1)).length := by rw [List.length_map]; exact (List.getElem?_eq_some_iff.mp hj).1
      rw [List.getElem?_set_self hl, List.getElem?_map, hj]
      rfl
    · rw [List.getElem?_set_ne e]
  have cs : ∀ q ∈ ms.set j (a, c'), q = (a, c') ∨ (q ∈ ms ∧ q.1 ≠ a) := fun q hq => by
    obtain ⟨i, hi⟩ := List.mem_iff_getElem?.mp hq
    by_cases e : j = i
    · subst e
      have hl : j < ms.length := (List.getElem?_eq_some_iff.mp hj).1
      rw [List.getElem?_set_self hl] at hi
      exact .inl (Option.some.inj hi).symm
    · rw [List.getElem?_set_ne e] at hi
      exact .inr ⟨List.mem_of_getElem? hi, fun z => e (nodup_at S.mem.nd hj hi z.symm)⟩
  refine k v G' H' e ⟨S.sl.mono e, x, ⟨fun p hp => ?_, fun p hp => ?_, by rw [hmap]; exact S.mem.nd⟩, S.stp.then_ s (fun b h => ?_), fun p hp => ?_⟩ hr
  · rcases cs p hp with z | ⟨z, n⟩
    · subst z; exact m.at_ _ List.mem_cons_self
    · obtain ⟨u, hu⟩ := (S.mem.at_ p z).some_
      exact (S.mem.at_ p z).move e ((s.keep _ _ (by simpa using n) hu).trans hu.symm)
  · rcases cs p hp with z | ⟨z, n⟩
    · subst z; exact m.out _ List.mem_cons_self
    · obtain ⟨u, hu⟩ := (S.mem.at_ p z).some_
      rw [s.old _ _ hu]
      exact S.mem.out p z
  · have z : b = a := by simpa using h
    subst z
    exact S.own (b, c) hm
  · rcases cs p hp with z | ⟨z, n⟩
    · subst z; exact S.own (a, c) hm
    · exact S.own p z
theorem set_same {α : Type} {l : List α} {j : Nat} {x : α} (h : l[j]? = some x) : l.set j x = l := by
  refine List.ext_getElem? fun i => ?_
  by_cases e : j = i
  · subst e
    rw [List.getElem?_set_self (List.getElem?_eq_some_iff.mp h).1, h]
  · rw [List.getElem?_set_ne e]

/-! ### the call of a def by its promise -/
def tCallR (sp : Sp) (E : XK) (t : TA) : TE := fun σ H Q => t σ H fun vs H1 => sp vs H1 Q E
theorem ev_call {α : Type} {pre : α → List Addr → Prop} {ar : α → List Rp} {res : α → Rp} (x : α) (h : EvA B L tl ctx ms (ar x) ms1) (hp : pre x L) : EvM B L (tCallR (spP pre ar res) E tl) ctx ms (res x) ms1 := fun σ G H S Q k =>
  h σ G H S _ fun xs G1 H1 e1 S1 q1 => ⟨x, L, hp, pr_use0 S1 q1 fun v G2 H2 e2 S2 q2 => k v G2 H2 (e1.trans e2) S2 q2⟩
/-- a cell goes in and comes out -/
theorem ev_call1 {α : Type} {pre : α → List Addr → Prop} {ar : α → List Rp} {mi mo : α → Ms} {res : α → Rp} (x : α) {a : Addr} {c c' : Cell} (j : Nat) (h : EvA B L tl ctx ms (ar x) ms1) (hp : pre x L) (hi : mi x = [(a, c)]) (ho : mo x = [(a, c')]) (hj : ms1[j]? = some (a, c)) :
    EvM B L (tCallR (spF pre ar mi mo res) E tl) ctx ms (res x) (ms1.set j (a, c')) := fun σ G H S Q k =>
  h σ G H S _ fun xs G1 H1 e1 S1 q1 => ⟨x, L, hp, by rw [hi, ho]; exact pr_use1 hj S1 q1 fun v G2 H2 e2 S2 q2 => k v G2 H2 (e1.trans e2) S2 q2⟩
/-- the dice go in and come out -/
theorem ev_callD {α : Type} {pre : α → List Addr → Prop} {ar : α → List Rp} {mi mo : α → Ms} {res : α → Rp} (x : α) {a : Addr} (j : Nat) (h : EvA B L tl ctx ms (ar x) ms1) (hp : pre x L) (hi : mi x = [(a, .dice)]) (ho : mo x = [(a, .dice)]) (hj : ms1[j]? = some (a, .dice)) :
    EvM B L (tCallR (spF pre ar mi mo res) E tl) ctx ms (res x) ms1 := by
  have z := ev_call1 (res := res) (E := E) x j h hp hi ho hj
  rw [set_same hj] at z
  exact z
end

/-! ### a def's body from its promise, its promise from the body's end -/
section
variable {L : List Addr} {vs : List V} {G H : Hp} {ar : List Rp} {mi : Ms} {N : List Str}
theorem sx_start (x : ExL L G H) (hal : Al ar vs G) (m : Mem mi G H) : Sx ⟨mi.map (·.1), G, H⟩ L (ar.map some ++ List.replicate (N.length - ar.length) none) mi (L2.start N vs) G H := by
  refine ⟨⟨?_, fun i r e => ?_⟩, x, m, Stp.refl, fun p hp => .inl (List.mem_map.mpr ⟨p, hp, rfl⟩)⟩
  · unfold L2.start
    rw [List.length_append, List.length_append, List.length_map, List.length_map, List.length_replicate, List.length_replicate, hal.len]
  · by_cases hi : i < ar.length
    · rw [List.getElem?_append_left (by rw [List.length_map]; exact hi), List.getElem?_map] at e
      cases q : ar[i]? with
      | none => rw [q] at e; cases e
      | some r' =>
        rw [q] at e
        cases e
        obtain ⟨v, hv, hr⟩ := hal.get q
        refine ⟨v, ?_, hr⟩
        unfold L2.start
        rw [List.getElem?_append_left (by rw [List.length_map, ← hal.len]; exact hi), List.getElem?_map, hv]
        rfl
    · rw [List.getElem?_append_right (by rw [List.length_map]; omega)] at e
      obtain ⟨_, z⟩ := List.getElem?_eq_some_iff.mp e
      rw [List.getElem_replicate] at z
      cases z
end

/-! ### the text's facts at hand -/
structure Tx (P : Program) (w : World) (K : PySem.W.Frag) (mg : Str → Option Value) (base : Heap) : Prop where
  says : SaysM facts fns K
  kin : K.In base
  ns : base.Ns mainGlobals mg
/-- a def that the module's name x stands for -/
structure Cl (P : Program) (w : World) (K : PySem.W.Frag) (mg : Str → Option Value) (base : Heap) (k : Nat) (x : Str) (sp : Sp) : Prop where
  ex : ∃ f, mg x = some (.ref f) ∧ PySem.W.keepIn K (.ref f) = true ∧ FnR P w K mg base CX0 k f sp
/-- a method of the class at C -/
structure Mt (P : Program) (w : World) (K : PySem.W.Frag) (mg : Str → Option Value) (base : Heap) (k : Nat) (C : Addr) (m : Str) (sp : Sp) : Prop where
  ex : ∃ f, Meth K C m f ∧ FnR P w K mg base CX0 k f sp
section
variable {P : Program} {w : World} {K : PySem.W.Frag} {mg : Str → Option Value} {base : Heap}
/-- the def d by its body -/
theorem fnR_of {α : Type} {pre : α → List Addr → Prop} {ar : α → List Rp} {mi mo : α → Ms} {res : α → Rp} {x qual : Str} {params : Arguments} {body : List Stmt} {scope : Scope} {kws : List (Str × V)} {f : Addr} {fd : FuncData} {N ps : List Str} {k : Nat}
    (F : FunD K x qual params body scope [] kws f fd) (S : FnScope N ps scope) (hl : ∀ x, (ar x).length = ps.length)
    (hb : ∀ (kV doc pm : Value) (an : Option Addr) (cdv ct : Value) (us : List Value), us.length = ps.length → bindArgs (PySem.W.fnOf x qual params body scope .none kV doc pm an cdv ct) ⟨us, []⟩ = pure (ps.zip us))
    (hbody : ∀ (cdv : Value) (A : Around) (outer : List Env) (s : Shared) (H0 : Hp) (vs : List V) (Q : VK) (E : XK), Room k (A.deeper (envOfC qual scope s.heap.objs.size f cdv)) → ∀ (z : α) (L : List Addr) (G : Hp), pre z L →
      (∀ ctx σ G' H', Sx ⟨(mi z).map (·.1), G, H0⟩ L ctx (mo z) σ G' H' → ∀ v, (res z).ok v G' → Q v H') →
      Sx ⟨(mi z).map (·.1), G, H0⟩ L ((ar z).map some ++ List.replicate (N.length - (ar z).length) none) (mi z) (L2.start N vs) G H0 →
      ∃ t, PSs (cxOf CX0 P w K mg base N qual scope f cdv A outer s H0 E).nox body t ∧ t { nx := fun _ H' => Q .non H', rt := Q } (L2.start N vs) H0) :
    FnR P w K mg base CX0 (k + 1) f (spF pre ar mi mo res) := by
  have F1 : FnOk P w K mg base CX0 (k + 1) f fd ps (spF pre ar mi mo res) := by
    refine F.ok S (fun vs H Q E h => ?_) (fun cdv A outer s H vs Q E hr h => ?_)
    · obtain ⟨z, L, _, G, _, hal, _⟩ := h
      rw [← hal.len, hl]
    · obtain ⟨z, L, hp, G, x, hal, m, kk⟩ := h
      obtain ⟨t, h1, h2⟩ := hbody cdv A outer s H vs Q E hr z L G hp (fun ctx σ G' H' S' v hv => kk v G' H' S'.stp S'.ex S'.mem hv) (sx_start x hal m)
      exact ⟨t, h1.nox, h2⟩
  have F2 := F1.raw (FunD.bindsN F hb) .nil
  exact F2.imp fun vs H Q E h => by rw [List.append_nil]; exact h
theorem Tx.def_ (T : Tx P w K mg base) (i : Nat) {d : He5.DefA} (h : fns[i]? = some d := by rfl) : ∃ fd, FunD K d.name d.qual d.params d.body d.scope (d.dvs K) (d.kws K) (d.at_ K) fd := T.says.def_ i h
theorem Tx.fact (T : Tx P w K mg base) (i : Nat) {f : Fr → Bool} (h : facts[i]? = some f := by rfl) : f K = true := T.says.fact i h
theorem Tx.glo (T : Tx P w K mg base) {x : Str} (i : Nat) (h : facts[i]? = some (fun K => (He.Fa.glo x).ok K) := by rfl) : mg x = some (.ref (He.ga K x)) := He.glo_ok T.kin T.ns (T.fact i h)
theorem Tx.free (T : Tx P w K mg base) {x : Str} (i : Nat) (h : facts[i]? = some (fun K => (He.Fa.free x).ok K) := by rfl) : mg x = none := He.free_ok T.kin T.ns (T.fact i h)
theorem Tx.int (T : Tx P w K mg base) {x : Str} {n : Int} (i : Nat) (h : facts[i]? = some (fun K => (He.Fa.int x n).ok K) := by rfl) : ∃ t, mg x = some (.int n t) := He.int_ok T.kin T.ns (T.fact i h)
theorem Tx.str (T : Tx P w K mg base) {x z : Str} (i : Nat) (h : facts[i]? = some (fun K => (He.Fa.str x z).ok K) := by rfl) : ∃ t, mg x = some (.str z t) := He.str_ok T.kin T.ns (T.fact i h)
theorem Tx.cls (T : Tx P w K mg base) {x : Str} (i : Nat) (h : facts[i]? = some (fun K => (He.Fa.cls x).ok K) := by rfl) : Cls K (He.ga K x) := He.cls_ok (T.fact i h)
theorem Tx.noat (T : Tx P w K mg base) {x f : Str} (i : Nat) (h : facts[i]? = some (fun K => (He.Fa.noat x f).ok K) := by rfl) : NoAttr K (He.ga K x) f := He.noat_ok (T.fact i h)
theorem Tx.meth (T : Tx P w K mg base) {x m : Str} (i : Nat) (h : facts[i]? = some (fun K => (He.Fa.meth x m).ok K) := by rfl) : Meth K (He.ga K x) m (He.ma K (He.ga K x) m) := He.meth_ok (T.fact i h)
theorem Tx.mkr (T : Tx P w K mg base) {x : Str} (i : Nat) (h : facts[i]? = some (fun K => (He.Fa.mkr x).ok K) := by rfl) : Mk K (He.ga K x) (He.ma K (He.ga K x) "__init__") := He.mkr_ok (T.fact i h)
end
section
variable {X : Cx} {k j : Nat} {sp : Sp} {x m : Str} {C : Addr} {e o : Expr} {es : List Expr} {ta : TE} {t : TA} {p pos apos : Pos} {pl : Sem Bool}
/-- x(e, ..) -/
theorem pe_callR (c : Cl X.prog X.w X.K X.mg X.base k x sp) (hr : Room j X.A) (hk : k ≤ j) (hg : Gl X x) (ha : PA X (e :: es) t)
    (hdb : (x == ("__debug__" : Str)) = false := by decide) (he : starEach (e :: es) X.env = (false, eval e X.env) :: starEach es X.env := by rfl) (hpl : (backTo pos (starEach es X.env)).any (·.1) = false := by rfl) :
    PE X (.Call (.Name x p) (e :: es) [] pos) (tCallR sp E0 t) := by
  obtain ⟨f, hm, kp, F⟩ := c.ex
  refine ⟨fun pins s σ H Q I h => ?_⟩
  refine wpAny_Call_Name_kw (ld_glob I hg hm ?_ hdb)
  refine PySem.W.callWith_K (h₀ := X.base) I.ok.mod.kin kp (thn (ha.run pos pins s σ H _ I h) fun us s1 ⟨vs, H1, I1, r, q⟩ => ⟨I1.kIn, ?_⟩) he hpl
  exact wpAny_call (run_fnR F (hr.mono hk) pass0 I1 r q)
end
end K62
set_option maxHeartbeats 4000000
/-! K62Loop: walked things, comprehensions, loops. -/
namespace K62
open PySem PySem.Spec PyProof.Rows L2

section
variable {B : Bs} {L L' : List Addr} {ctx ctx' : Ct} {ms ms' : Ms} {σ σ' : L2.St} {G H G' H' : Hp}
/-- another base: what holds now -/
theorem Sx.re (S : Sx B L ctx ms σ G H) : Sx ⟨ms.map (·.1), G, H⟩ L ctx ms σ G H := ⟨S.sl, S.ex, S.mem, Stp.refl, fun p hp => .inl (List.mem_map.mpr ⟨p, hp, rfl⟩)⟩
theorem Sx.un (S : Sx B L ctx ms σ G H) (S' : Sx ⟨ms.map (·.1), G, H⟩ L' ctx' ms' σ' G' H') : Sx B L' ctx' ms' σ' G' H' :=
  ⟨S'.sl, S'.ex, S'.mem, S.stp.then_ S'.stp fun c hc => by
    obtain ⟨q, hq, e⟩ := List.mem_map.mp hc
    subst e
    exact S.own q hq, fun p hp => by
    rcases S'.own p hp with z | z
    · obtain ⟨q, hq, e⟩ := List.mem_map.mp z
      rw [← e]
      exact S.own q hq
    · refine .inr ?_
      cases e : B.H p.1 with
      | none => rfl
      | some u =>
        obtain ⟨u', e'⟩ := S.stp.there _ _ e
        have z : H p.1 = none := z
        rw [z] at e'
        cases e'⟩
theorem Sx.ctx_ (S : Sx B L ctx ms σ G H) (s : Sl ctx' σ' G) : Sx B L ctx' ms σ' G H := ⟨s, S.ex, S.mem, S.stp, S.own⟩

/-! ### slots forgotten within a comprehension -/
def wipeC (ctx : Ct) : List Nat → Ct
  | [] => ctx
  | v :: vs => (wipeC ctx vs).set v none
theorem Sl.none_ {i : Nat} (s : Sl ctx σ G) {x : Option V} : Sl (ctx.set i none) (σ.set i x) G := by
  refine ⟨by rw [List.length_set, List.length_set, s.len], fun j q e => ?_⟩
  by_cases hj : j = i
  · subst hj
    have hl : j < ctx.length := by
      have := (List.getElem?_eq_some_iff.mp e).1
      rwa [List.length_set] at this
    rw [List.getElem?_set_self hl] at e
    cases e
  · rw [List.getElem?_set_ne (Ne.symm hj)] at e
    obtain ⟨u, h1, h2⟩ := s.at_ j q e
    exact ⟨u, by rw [List.getElem?_set_ne (Ne.symm hj)]; exact h1, h2⟩
theorem Sl.wipe (s : Sl ctx σ G) : ∀ vs : List Nat, Sl (wipeC ctx vs) (L2.wipe σ vs) G
  | [] => s
  | v :: vs => (Sl.wipe s vs).none_
theorem wipe_get {σ : L2.St} {k : Nat} : ∀ {vs : List Nat}, (L2.wipe σ vs)[k]? = if k ∈ vs ∧ k < σ.length then some none else σ[k]?
  | [] => by simp [L2.wipe]
  | v :: vs => by
    unfold L2.wipe
    by_cases hk : k = v
    · subst hk
      by_cases hl : k < σ.length
      · rw [List.getElem?_set_self (by rw [wipe_length]; exact hl), if_pos ⟨List.mem_cons_self, hl⟩]
      · rw [if_neg (fun z => hl z.2), List.getElem?_eq_none (by rw [List.length_set, wipe_length]; omega), List.getElem?_eq_none (by omega)]
    · rw [List.getElem?_set_ne (Ne.symm hk), wipe_get (vs := vs)]
      simp [List.mem_cons, hk]
theorem wipe_of {σ σ' : L2.St} {vs : List Nat} (hl : σ'.length = σ.length) (h : ∀ k, k ∉ vs → σ'[k]? = σ[k]?) : L2.wipe σ' vs = L2.wipe σ vs := by
  refine List.ext_getElem? fun k => ?_
  rw [wipe_get, wipe_get, hl]
  by_cases hk : k ∈ vs
  · by_cases z : k < σ.length
    · rw [if_pos ⟨hk, z⟩, if_pos ⟨hk, z⟩]
    · rw [if_neg fun y => z y.2, if_neg fun y => z y.2, List.getElem?_eq_none (by omega), List.getElem?_eq_none (by omega)]
  · rw [if_neg fun y => hk y.1, if_neg fun y => hk y.1, h k hk]
theorem wipe_wipe {σ σ' : L2.St} {vs : List Nat} (h : L2.wipe σ' vs = L2.wipe (L2.wipe σ vs) vs) : L2.wipe σ' vs = L2.wipe σ vs := by
  rw [h]
  exact wipe_of (wipe_length _ _) fun k hk => by rw [wipe_get, if_neg fun y => hk y.1]

/-! ### targets -/
/-- the target g takes a value like r: the slots then -/
def GM (g : TG) (r : Rp) (ctx ctx' : Ct) (vs : List Nat) : Prop := ∀ (B : Bs) (L : List Addr) (ms : Ms) (σ : L2.St) (G H : Hp) (x : V), Sx B L ctx ms σ G H → r.ok x G → ∀ Q : L2.St → Hp → Prop, (∀ σ', Sx B L ctx' ms σ' G H → L2.wipe σ' vs = L2.wipe σ vs → Q σ' H) → g x σ H Q
theorem wipe_set {σ : L2.St} {i : Nat} {x : Option V} {vs : List Nat} (hi : i ∈ vs) : L2.wipe (σ.set i x) vs = L2.wipe σ vs :=
  wipe_of (by rw [List.length_set]) fun k hk => List.getElem?_set_ne fun e => hk (by rw [← e]; exact hi)
theorem gm_name {r : Rp} {i : Nat} {vs : List Nat} (hi : i ∈ vs) : GM (gName i) r ctx (ctx.set i (some r)) vs := fun B L ms σ G H x S hx Q k => k _ (S.set hx) (wipe_set hi)
theorem gm_tup2 {K : PySem.W.Frag} {r1 r2 : Rp} {i j : Nat} {vs : List Nat} (hi : i ∈ vs) (hj : j ∈ vs) : GM (gTup K 2 (gCons (gName i) (gCons (gName j) gNil))) (rTup [r1, r2]) ctx ((ctx.set i (some r1)).set j (some r2)) vs := fun B L ms σ G H x S ⟨a, xs, ex, ha, hal⟩ Q k => by
  obtain ⟨v, w, rfl, h1, h2⟩ := al2 hal
  exact ⟨a, _, ex, SqT.of (S.ex.tup ha), rfl, v, _, rfl, w, _, rfl, rfl, k _ ((S.set h1).set h2) ((wipe_set hj).trans (wipe_set hi))⟩
theorem gm_tup3 {K : PySem.W.Frag} {r1 r2 r3 : Rp} {i j l : Nat} {vs : List Nat} (hi : i ∈ vs) (hj : j ∈ vs) (hl : l ∈ vs) : GM (gTup K 3 (gCons (gName i) (gCons (gName j) (gCons (gName l) gNil)))) (rTup [r1, r2, r3]) ctx (((ctx.set i (some r1)).set j (some r2)).set l (some r3)) vs := fun B L ms σ G H x S ⟨a, xs, ex, ha, hal⟩ Q k => by
  obtain ⟨v, w, z, rfl, h1, h2, h3⟩ := al3 hal
  exact ⟨a, _, ex, SqT.of (S.ex.tup ha), rfl, v, _, rfl, w, _, rfl, z, _, rfl, rfl, k _ (((S.set h1).set h2).set h3) ((wipe_set hl).trans ((wipe_set hj).trans (wipe_set hi)))⟩
theorem gm_lst2 {K : PySem.W.Frag} {r1 r2 : Rp} {i j : Nat} {vs : List Nat} (hi : i ∈ vs) (hj : j ∈ vs) : GM (gUnl K 2 (gCons (gName i) (gCons (gName j) gNil))) (rLst [r1, r2]) ctx ((ctx.set i (some r1)).set j (some r2)) vs := fun B L ms σ G H x S ⟨a, xs, ex, ha, hal⟩ Q k => by
  obtain ⟨v, w, rfl, h1, h2⟩ := al2 hal
  exact ⟨a, _, ex, SqL.of (S.ex.lst ha), rfl, v, _, rfl, w, _, rfl, rfl, k _ ((S.set h1).set h2) ((wipe_set hj).trans (wipe_set hi))⟩
theorem gm_lst3 {K : PySem.W.Frag} {r1 r2 r3 : Rp} {i j l : Nat} {vs : List Nat} (hi : i ∈ vs) (hj : j ∈ vs) (hl : l ∈ vs) : GM (gUnl K 3 (gCons (gName i) (gCons (gName j) (gCons (gName l) gNil)))) (rLst [r1, r2, r3]) ctx (((ctx.set i (some r1)).set j (some r2)).set l (some r3)) vs := fun B L ms σ G H x S ⟨a, xs, ex, ha, hal⟩ Q k => by
  obtain ⟨v, w, z, rfl, h1, h2, h3⟩ := al3 hal
  exact ⟨a, _, ex, SqL.of (S.ex.lst ha), rfl, v, _, rfl, w, _, rfl, z, _, rfl, rfl, k _ (((S.set h1).set h2).set h3) ((wipe_set hl).trans ((wipe_set hj).trans (wipe_set hi)))⟩
end

/-! ### walked things -/
structure Src (J : It) (rs : List Rp) (L : List Addr) (G0 H0 : Hp) : Prop where
  go : ∀ {B : Bs} {ctx : Ct} {ms : Ms} {σ : L2.St} {G H : Hp} {i : Nat} {r : Rp}, Same G0 G → (∀ d ∈ L, H d = H0 d) → Sx B L ctx ms σ G H → rs[i]? = some r → J.go i H ∧ ∀ x H', J.yld i H x H' → ∃ G', Same G G' ∧ Sx B L ctx ms σ G' H' ∧ r.ok x G'
  stop : ∀ {B : Bs} {ctx : Ct} {ms : Ms} {σ : L2.St} {G H : Hp} {i : Nat}, Same G0 G → (∀ d ∈ L, H d = H0 d) → Sx B L ctx ms σ G H → rs.length ≤ i → J.stop i H
def EvI (B : Bs) (L : List Addr) (wi : TI) (ctx : Ct) (ms : Ms) (rs : List Rp) (ms' : Ms) : Prop := ∀ (σ : L2.St) (G H : Hp), Sx B L ctx ms σ G H → ∀ R : It → Hp → Prop, (∀ J G' H', Same G G' → Sx B L ctx ms' σ G' H' → Src J rs L G' H' → R J H') → wi σ H R
/-- a test whose answer is one of P's -/
def EvP (B : Bs) (L : List Addr) (tt : TT) (ctx : Ct) (ms : Ms) (P : Bool → Prop) (ms' : Ms) : Prop := ∀ (σ : L2.St) (G H : Hp), Sx B L ctx ms σ G H → ∀ Q : Bool → Hp → Prop, (∀ b G' H', P b → Same G G' → Sx B L ctx ms' σ G' H' → Q b H') → tt σ H Q
section
variable {B : Bs} {L : List Addr} {ctx ctx1 : Ct} {ms ms1 ms2 : Ms} {te tb tk tv : TE} {ta : TA} {r r1 r2 : Rp} {rs ss : List Rp} {K : PySem.W.Frag} {tt : TT} {wi : TI} {g : TG} {b : Bool}
theorem ep_of (h : EvT B L tt ctx ms b ms1) : EvP B L tt ctx ms (fun c => b = c) ms1 := fun σ G H S Q k => h σ G H S Q fun G' H' e S' => k b G' H' rfl e S'
theorem ep_val {P : Bool → Prop} (h : EvM B L te ctx ms (rEx P rB) ms1) : EvP B L (tTest te) ctx ms P ms1 := fun σ G H S Q k => h σ G H S _ fun x G1 H1 e1 S1 ⟨c, pc, q1⟩ => ⟨c, q1, k c G1 H1 pc e1 S1⟩
theorem ep_B {P : Bool → Prop} (h : EvM B L te ctx ms (rEx P rB) ms1) : EvP B L (tB te) ctx ms P ms1 := fun σ G H S Q k => h σ G H S _ fun x G1 H1 e1 S1 ⟨c, pc, q1⟩ => ⟨c, q1, k c G1 H1 pc e1 S1⟩
theorem paired_at {α β : Type} {R : α → β → Prop} : ∀ {l : List α} {m : List β}, Paired R l m → ∀ {i : Nat} {x : α} {y : β}, l[i]? = some x → m[i]? = some y → R x y
  | _, _, .nil, _, _, _, e, _ => by simp at e
  | _, _, .cons h t, 0, _, _, e, e' => by simp at e e'; subst e e'; exact h
  | _, _, .cons h t, i + 1, _, _, e, e' => paired_at t (by simpa using e) (by simpa using e')
theorem ei_list (h : EvM B L te ctx ms (rLst rs) ms1) : EvI B L (iList K te) ctx ms rs ms1 := fun σ G H S R k => h σ G H S _ fun v G1 H1 e1 S1 ⟨a, xs, ex, ha, hal⟩ =>
  ⟨a, ex, ⟨xs, SqL.of (S1.ex.lst ha)⟩, k _ G1 H1 e1 S1 ⟨fun {B ctx ms σ G H i r} e _ S hr => by
    have q : SqL K H a xs := SqL.of (S.ex.lst (e _ _ ha))
    obtain ⟨x, hx, hok⟩ := hal.get hr
    refine ⟨⟨xs, x, q, hx⟩, fun y H' z => ?_⟩
    obtain ⟨z1, z2⟩ := z
    have z3 := z2 xs q
    rw [hx] at z3
    cases z3
    subst z1
    exact ⟨G, Same.refl G, S, r.mono e hok⟩, fun {B ctx ms σ G H i} e _ S hi => ⟨xs, SqL.of (S.ex.lst (e _ _ ha)), by rw [← hal.len]; exact hi⟩⟩⟩
theorem ei_tup (h : EvM B L te ctx ms (rTup rs) ms1) : EvI B L (iTup K te) ctx ms rs ms1 := fun σ G H S R k => h σ G H S _ fun v G1 H1 e1 S1 ⟨a, xs, ex, ha, hal⟩ =>
  ⟨a, ex, ⟨xs, SqT.of (S1.ex.tup ha)⟩, k _ G1 H1 e1 S1 ⟨fun {B ctx ms σ G H i r} e _ S hr => by
    have q : SqT K H a xs := SqT.of (S.ex.tup (e _ _ ha))
    obtain ⟨x, hx, hok⟩ := hal.get hr
    refine ⟨⟨xs, x, q, hx⟩, fun y H' z => ?_⟩
    obtain ⟨z1, z2⟩ := z
    have z3 := z2 xs q
    rw [hx] at z3
    cases z3
    subst z1
    exact ⟨G, Same.refl G, S, r.mono e hok⟩, fun {B ctx ms σ G H i} e _ S hi => ⟨xs, SqT.of (S.ex.tup (e _ _ ha)), by rw [← hal.len]; exact hi⟩⟩⟩
theorem src_rng {n : Nat} {G H : Hp} : Src (Itr 0 n) ((List.range n).map fun i => rI (i : Nat)) L G H := ⟨fun {B ctx ms σ G H i r} e _ S hr => by
  rw [List.getElem?_map] at hr
  have hi : i < n := by
    rcases Nat.lt_or_ge i n with z | z
    · exact z
    · rw [List.getElem?_eq_none (by rw [List.length_range]; exact z)] at hr; cases hr
  rw [List.getElem?_range hi] at hr
  cases hr
  refine ⟨hi, fun x H' z => ?_⟩
  obtain ⟨z1, z2⟩ := z
  subst z1
  exact ⟨G, Same.refl G, S, by rw [z2]; show V.int _ = V.int _; rw [Int.zero_add]⟩, fun {B ctx ms σ G H i} e _ S hi => by rwa [List.length_map, List.length_range] at hi⟩
theorem ei_rng1 {m : Int} {n : Nat} (h : EvA B L ta ctx ms [rI m] ms1) (hm : m.toNat = n) (hn : n ≤ 100000) (h0 : -100 ≤ m) : EvI B L (iRng1 ta) ctx ms ((List.range n).map fun i => rI (i : Nat)) ms1 := fun σ G H S R k => h σ G H S _ fun vs G1 H1 e1 S1 hal => by
  obtain ⟨v, rfl, e⟩ := al1 hal
  have e : v = .int m := e
  subst e hm
  exact ⟨m, rfl, by omega, by omega, k _ G1 H1 e1 S1 src_rng⟩
theorem ei_str {z : Str} (h : EvM B L te ctx ms (rS z) ms1) : EvI B L (iStr te) ctx ms (z.cps.toList.map fun c => rS ⟨#[c]⟩) ms1 := fun σ G H S R k => h σ G H S _ fun v G1 H1 e1 S1 ex =>
  ⟨z, ex, k _ G1 H1 e1 S1 ⟨fun {B ctx ms σ G H i r} e _ S hr => by
    rw [List.getElem?_map] at hr
    cases q : z.cps.toList[i]? with
    | none => rw [q] at hr; cases hr
    | some c =>
      rw [q] at hr
      cases hr
      rw [Array.getElem?_toList] at q
      refine ⟨(Array.getElem?_eq_some_iff.mp q).1, fun x H' y => ?_⟩
      obtain ⟨y1, c', y2, y3⟩ := y
      rw [q] at y2
      cases y2
      subst y1
      exact ⟨G, Same.refl G, S, y3⟩, fun {B ctx ms σ G H i} e _ S hi => by
    rw [List.length_map, Array.length_toList] at hi
    exact hi⟩⟩
theorem ei_enum (h : EvA B L ta ctx ms [rLst rs] ms1) : EvI B L (iEnum K ta) ctx ms (rs.mapIdx fun i r => rTup [rI (i : Nat), r]) ms1 := fun σ G H S R k => h σ G H S _ fun vs G1 H1 e1 S1 hal0 => by
  obtain ⟨v, rfl, a, xs, ex, ha, hal⟩ := al1 hal0
  subst ex
  refine ⟨a, xs, rfl, SqL.of (S1.ex.lst ha), k _ G1 H1 e1 S1 ⟨fun {B ctx ms σ G H i r} e _ S hr => ?_, fun {B ctx ms σ G H i} e _ S hi => ?_⟩⟩
  · have q : SqL K H a xs := SqL.of (S.ex.lst (e _ _ ha))
    rw [List.getElem?_mapIdx] at hr
    cases hq : rs[i]? with
    | none => rw [hq] at hr; cases hr
    | some r0 =>
      rw [hq] at hr
      cases hr
      obtain ⟨x, hx, hok⟩ := hal.get hq
      refine ⟨⟨xs, x, q, hx⟩, fun y H' z => ?_⟩
      obtain ⟨T, x', z1, z2, z3, z4⟩ := z
      have z5 := z4 xs q
      rw [hx] at z5
      cases z5
      subst z1 z3
      obtain ⟨e2, S2⟩ := S.new (o := .tup [.int (i : Nat), x]) z2
      exact ⟨_, e2, S2, T, _, rfl, upd_same, .cons rfl (.cons (r0.mono (e.trans e2) hok) .nil)⟩
  · rw [List.length_mapIdx] at hi
    exact ⟨xs, SqL.of (S.ex.lst (e _ _ ha)), by rw [← hal.len]; exact hi⟩
/-- two tuples side by side -/
theorem ei_zipT (h : EvA B L ta ctx ms [rTup rs, rTup ss] ms1) : EvI B L (RZ.iZipA K ta) ctx ms (List.zipWith (fun r s => rTup [r, s]) rs ss) ms1 := fun σ G H S R k => h σ G H S _ fun vs G1 H1 e1 S1 hal0 => by
  obtain ⟨v, w, rfl, ⟨a, xs, ex, ha, hal⟩, ⟨b, ys, ey, hb, hbl⟩⟩ := al2 hal0
  subst ex ey
  refine ⟨a, b, xs, ys, rfl, .inr ⟨SqT.of (S1.ex.tup ha), SqT.of (S1.ex.tup hb), k _ G1 H1 e1 S1 ⟨fun {B ctx ms σ G H i r} e _ S hr => ?_, fun {B ctx ms σ G H i} e _ S hi => ?_⟩⟩⟩
  · have qa : SqT K H a xs := SqT.of (S.ex.tup (e _ _ ha))
    have qb : SqT K H b ys := SqT.of (S.ex.tup (e _ _ hb))
    rw [List.getElem?_zipWith] at hr
    cases h1 : rs[i]? with
    | none => rw [h1] at hr; cases hr
    | some r0 =>
      cases h2 : ss[i]? with
      | none => rw [h1, h2] at hr; cases hr
      | some s0 =>
        rw [h1, h2] at hr
        cases hr
        obtain ⟨x, hx, hxo⟩ := hal.get h1
        obtain ⟨y, hy, hyo⟩ := hbl.get h2
        refine ⟨⟨xs, ys, x, y, qa, qb, hx, hy⟩, fun z H' q => ?_⟩
        obtain ⟨T, x', y', z1, z2, z3, z4, z5⟩ := q
        have z6 := z4 xs qa
        have z7 := z5 ys qb
        rw [hx] at z6
        rw [hy] at z7
        cases z6
        cases z7
        subst z1 z3
        obtain ⟨e2, S2⟩ := S.new (o := .tup [x, y]) z2
        exact ⟨_, e2, S2, T, _, rfl, upd_same, .cons (r0.mono (e.trans e2) hxo) (.cons (s0.mono (e.trans e2) hyo) .nil)⟩
  · rw [List.length_zipWith] at hi
    refine ⟨xs, ys, SqT.of (S.ex.tup (e _ _ ha)), SqT.of (S.ex.tup (e _ _ hb)), ?_⟩
    rw [← hal.len, ← hbl.len]
    omega

/-! ### dicts under a lock -/
/-- the dict at d, by name -/
def rDctAt (d : Addr) (ks : List (Int × Rp)) : Rp := ⟨fun v G => v = .ref d ∧ ∃ xs, G d = some (.dK xs) ∧ AlK ks xs G, fun e ⟨h1, xs, h2, h3⟩ => ⟨h1, xs, e _ _ h2, h3.mono e⟩⟩
theorem rDctAt_to {d : Addr} {ks : List (Int × Rp)} {v : V} {G : Hp} (h : (rDctAt d ks).ok v G) : (rDct ks).ok v G := by
  obtain ⟨h1, xs, h2, h3⟩ := h
  exact ⟨d, xs, h1, h2, h3⟩
theorem rDct_at {ks : List (Int × Rp)} {v : V} {G : Hp} (h : (rDct ks).ok v G) : ∃ d, (∃ kvs, G d = some (.dK kvs)) ∧ (rDctAt d ks).ok v G := by
  obtain ⟨d, xs, h1, h2, h3⟩ := h
  exact ⟨d, ⟨xs, h2⟩, h1, xs, h2, h3⟩
theorem ExL.lock {d : Addr} {G H : Hp} {kvs : List (Key × V)} {o : Obj} (x : ExL [] G H) (h : G d = some (.dK kvs)) : ExL [d] G (upd H d (.frz o (.dK kvs))) := by
  refine ⟨fun a u e => ?_, fun a m => ?_⟩
  · by_cases q : a = d
    · subst q
      rw [h] at e
      cases e
      exact .inr ⟨by simp, ⟨_, rfl⟩, o, upd_same⟩
    · rcases x.at_ a u e with ⟨_, z⟩ | ⟨z, _, _⟩
      · exact .inl ⟨by simpa using q, by rw [upd_ne q]; exact z⟩
      · cases z
  · have e : a = d := by simpa using m
    subst e
    exact ⟨_, h⟩
theorem ExL.unlock {d : Addr} {G H : Hp} {kvs : List (Key × V)} (x : ExL [d] G H) (h : G d = some (.dK kvs)) : (∃ o, H d = some (.frz o (.dK kvs))) ∧ ExL [] G (upd H d (.dK kvs)) := by
  constructor
  · rcases x.at_ d _ h with ⟨z, _⟩ | ⟨_, _, o, z⟩
    · exact absurd (List.mem_singleton.mpr rfl) z
    · exact ⟨o, z⟩
  · refine ⟨fun a u e => .inl ⟨by simp, ?_⟩, fun a m => by cases m⟩
    by_cases q : a = d
    · subst q
      rw [h] at e
      cases e
      exact upd_same
    · rw [upd_ne q]
      rcases x.at_ a u e with ⟨_, z⟩ | ⟨z, _, _⟩
      · exact z
      · exact absurd (by simpa using z) q
theorem Sx.lock {d : Addr} {σ : L2.St} {G H : Hp} {kvs : List (Key × V)} {o : Obj} (S : Sx B [] ctx ms σ G H) (h : G d = some (.dK kvs)) :
    Sx ⟨ms.map (·.1), G, upd H d (.frz o (.dK kvs))⟩ [d] ctx ms σ G (upd H d (.frz o (.dK kvs))) := by
  refine ⟨S.sl, S.ex.lock h, ⟨fun p hp => ?_, S.mem.out, S.mem.nd⟩, Stp.refl, fun p hp => .inl (List.mem_map.mpr ⟨p, hp, rfl⟩)⟩
  have ne : p.1 ≠ d := fun e => by have := S.mem.out p hp; rw [e, h] at this; cases this
  exact (S.mem.at_ p hp).move (Same.refl G) (upd_ne ne)
theorem Sx.unlock {d : Addr} {σ σ' : L2.St} {G H G' H' : Hp} {kvs : List (Key × V)} {o : Obj} (S : Sx B [] ctx ms σ G H) (h : G d = some (.dK kvs)) (S' : Sx ⟨ms.map (·.1), G, upd H d (.frz o (.dK kvs))⟩ [d] ctx1 ms1 σ' G' H') :
    H' d = some (.frz o (.dK kvs)) ∧ Sx B [] ctx1 ms1 σ' G' (upd H' d (.dK kvs)) := by
  have nd : d ∉ ms.map (·.1) := fun m => by
    obtain ⟨q, hq, e⟩ := List.mem_map.mp m
    have := S.mem.out q hq
    rw [e, h] at this
    cases this
  have hd : H d = some (.dK kvs) := S.ex.dct0 h
  have h1 : H' d = some (.frz o (.dK kvs)) := S'.stp.keep d _ nd upd_same
  have h2 : G' d = some (.dK kvs) := by rw [S'.stp.old d _ upd_same]; exact h
  refine ⟨h1, S'.sl, (S'.ex.unlock h2).2, ⟨fun p hp => ?_, S'.mem.out, S'.mem.nd⟩, ?_, fun p hp => ?_⟩
  · have ne : p.1 ≠ d := fun e => by have := S'.mem.out p hp; rw [e, h2] at this; cases this
    exact (S'.mem.at_ p hp).move (Same.refl G') (upd_ne ne)
  · refine S.stp.then_ (ds' := ms.map (·.1)) ⟨fun b u e => ?_, fun b u n e => ?_, fun b u e => ?_⟩ fun c hc => ?_
    · by_cases q : b = d
      · subst q; exact S'.stp.old b _ upd_same
      · exact S'.stp.old b u (by show upd H d _ b = _; rw [upd_ne q]; exact e)
    · by_cases q : b = d
      · subst q; rw [hd] at e; cases e; exact upd_same
      · rw [upd_ne q]; exact S'.stp.keep b u n (by show upd H d _ b = _; rw [upd_ne q]; exact e)
    · by_cases q : b = d
      · subst q; exact ⟨_, upd_same⟩
      · obtain ⟨u', z⟩ := S'.stp.there b u (by show upd H d _ b = _; rw [upd_ne q]; exact e)
        exact ⟨u', by rw [upd_ne q]; exact z⟩
    · obtain ⟨q, hq, e⟩ := List.mem_map.mp hc
      subst e
      exact S.own q hq
  · rcases S'.own p hp with z | z
    · obtain ⟨q, hq, e⟩ := List.mem_map.mp z
      rw [← e]
      exact S.own q hq
    · refine .inr ?_
      have z : upd H d (.frz o (.dK kvs)) p.1 = none := z
      have ne : p.1 ≠ d := fun e => by rw [e, upd_same] at z; cases z
      rw [upd_ne ne] at z
      cases e : B.H p.1 with
      | none => rfl
      | some u => obtain ⟨u', e'⟩ := S.stp.there _ _ e; rw [z] at e'; cases e'
/-- a state that has another meaning besides -/
structure Turns (ctx : Ct) (ms : Ms) (ctx' : Addr → Ct) (ms' : Addr → Ms) : Prop where
  to : ∀ {B : Bs} {σ : L2.St} {G H : Hp}, Sx B [] ctx ms σ G H → ∃ d, (∃ kvs, G d = some (.dK kvs)) ∧ Sx B [] (ctx' d) (ms' d) σ G H
theorem turns_slot {i : Nat} {r : Rp} {r' : Addr → Rp} (h : ctx[i]? = some (some r)) (hr : ∀ v G, r.ok v G → ∃ d, (∃ kvs, G d = some (.dK kvs)) ∧ (r' d).ok v G) : Turns ctx ms (fun d => ctx.set i (some (r' d))) (fun _ => ms) := ⟨fun {B σ G H} S => by
  obtain ⟨v, h1, hv⟩ := S.sl.at_ i _ h
  obtain ⟨d, k, hd⟩ := hr v G hv
  refine ⟨d, k, ⟨⟨by rw [List.length_set]; exact S.sl.len, fun j q e => ?_⟩, S.ex, S.mem, S.stp, S.own⟩⟩
  by_cases hj : j = i
  · subst hj
    rw [List.getElem?_set_self (List.getElem?_eq_some_iff.mp h).1] at e
    cases e
    exact ⟨v, h1, hd⟩
  · rw [List.getElem?_set_ne (Ne.symm hj)] at e
    exact S.sl.at_ j q e⟩
theorem ev_lock {te : TE} {ctx' : Addr → Ct} {ms' ms1' : Addr → Ms} {r : Rp} (t : Turns ctx ms ctx' ms') (h : ∀ d B, EvM B [d] te (ctx' d) (ms' d) r (ms1' d)) (back : ∀ {B : Bs} {σ : L2.St} {G H : Hp} d, Sx B [] (ctx' d) (ms1' d) σ G H → Sx B [] ctx ms1 σ G H) : EvM B [] (tLockE te) ctx ms r ms1 := fun σ G H S Q k => by
  obtain ⟨d, ⟨kvs, hd⟩, S1⟩ := t.to S
  refine ⟨d, .dK kvs, S.ex.dct0 hd, trivial, fun o => ?_⟩
  refine h d _ σ G _ (S1.lock hd) _ fun v G2 H2 e2 S2 q2 => ?_
  obtain ⟨z1, z2⟩ := S1.unlock hd S2
  exact ⟨z1, k v G2 _ e2 (back d z2) q2⟩
theorem st_lock {ts : TS} {D : Ends} {σ : L2.St} {G H : Hp} {ctx' : Addr → Ct} {ms' : Addr → Ms} (t : Turns ctx ms ctx' ms') (S : Sx B [] ctx ms σ G H)
    (h : ∀ d kvs o, G d = some (.dK kvs) → Sx B [] (ctx' d) (ms' d) σ G H → Sx ⟨(ms' d).map (·.1), G, upd H d (.frz o (.dK kvs))⟩ [d] (ctx' d) (ms' d) σ G (upd H d (.frz o (.dK kvs))) →
      ts ⟨fun σ' H' => H' d = some (.frz o (.dK kvs)) ∧ D.nx σ' (upd H' d (.dK kvs)), fun v H' => H' d = some (.frz o (.dK kvs)) ∧ D.rt v (upd H' d (.dK kvs)), fun σ' H' => H' d = some (.frz o (.dK kvs)) ∧ D.bk σ' (upd H' d (.dK kvs)), fun σ' H' => H' d = some (.frz o (.dK kvs)) ∧ D.ct σ' (upd H' d (.dK kvs))⟩ σ (upd H d (.frz o (.dK kvs)))) :
    tLock ts D σ H := by
  obtain ⟨d, ⟨kvs, hd⟩, S1⟩ := t.to S
  exact ⟨d, .dK kvs, S.ex.dct0 hd, trivial, fun o => h d kvs o hd S1 (S1.lock hd)⟩
theorem AlK.get : ∀ {ks : List (Int × Rp)} {xs : List (Key × V)} {G : Hp} {i : Nat} {p : Int × Rp}, AlK ks xs G → ks[i]? = some p → ∃ v, xs[i]? = some (Sum.inl p.1, v) ∧ p.2.ok v G
  | _, _, _, _, _, .nil, e => by simp at e
  | _, (k, x) :: _, _, 0, _, .cons h _, e => by simp at e; subst e; obtain ⟨h1, h2⟩ := h; have h1 : k = _ := h1; subst h1; exact ⟨x, rfl, h2⟩
  | _, _, _, i + 1, _, .cons _ t, e => by
    obtain ⟨x, h1, h2⟩ := AlK.get (i := i) t (by simpa using e)
    exact ⟨x, by simpa using h1, h2⟩
theorem frz_at {d : Addr} {σ : L2.St} {G H : Hp} {xs : List (Key × V)} (S : Sx B [d] ctx ms σ G H) (h : G d = some (.dK xs)) : ∃ o, H d = some (.frz o (.dK xs)) := (S.ex.unlock h).1
theorem ei_keys {d : Addr} {ks : List (Int × Rp)} (h : EvM B [d] te ctx ms (rDctAt d ks) ms1) : EvI B [d] (iKeys te) ctx ms (ks.map fun p => rI p.1) ms1 := fun σ G H S R k => h σ G H S _ fun v G1 H1 e1 S1 ⟨ev, xs, ha, hal⟩ => by
  obtain ⟨o, ho⟩ := frz_at S1 ha
  refine ⟨d, o, ev, .inl ⟨xs, ho, k _ G1 H1 e1 S1 ⟨fun {B ctx ms σ G H i r} e el S hr => ?_, fun {B ctx ms σ G H i} e el S hi => ?_⟩⟩⟩
  · have q : H d = some (.frz o (.dK xs)) := by rw [el d (by simp)]; exact ho
    rw [List.getElem?_map] at hr
    cases hp : ks[i]? with
    | none => rw [hp] at hr; cases hr
    | some p =>
      rw [hp] at hr
      cases hr
      obtain ⟨x, hx, hok⟩ := hal.get hp
      refine ⟨⟨q, (List.getElem?_eq_some_iff.mp hx).1⟩, fun y H' z => ?_⟩
      obtain ⟨z1, k', v', z2, z3⟩ := z
      rw [hx] at z2
      cases z2
      subst z1
      exact ⟨G, Same.refl G, S, z3⟩
  · rw [List.length_map] at hi
    exact ⟨by rw [el d (by simp)]; exact ho, by rw [← Paired.length hal]; exact hi⟩
theorem ei_vals {d : Addr} {ks : List (Int × Rp)} (h : EvM B [d] te ctx ms (rDctAt d ks) ms1) : EvI B [d] (iVals te) ctx ms (ks.map fun p => p.2) ms1 := fun σ G H S R k => h σ G H S _ fun v G1 H1 e1 S1 ⟨ev, xs, ha, hal⟩ => by
  obtain ⟨o, ho⟩ := frz_at S1 ha
  refine ⟨d, o, xs, ev, ho, k _ G1 H1 e1 S1 ⟨fun {B ctx ms σ G H i r} e el S hr => ?_, fun {B ctx ms σ G H i} e el S hi => ?_⟩⟩
  · have q : H d = some (.frz o (.dK xs)) := by rw [el d (by simp)]; exact ho
    rw [List.getElem?_map] at hr
    cases hp : ks[i]? with
    | none => rw [hp] at hr; cases hr
    | some p =>
      rw [hp] at hr
      cases hr
      obtain ⟨x, hx, hok⟩ := hal.get hp
      refine ⟨⟨q, (List.getElem?_eq_some_iff.mp hx).1⟩, fun y H' z => ?_⟩
      obtain ⟨z1, k', z2⟩ := z
      rw [hx] at z2
      cases z2
      subst z1
      exact ⟨G, Same.refl G, S, p.2.mono e hok⟩
  · rw [List.length_map] at hi
    exact ⟨by rw [el d (by simp)]; exact ho, by rw [← Paired.length hal]; exact hi⟩
theorem ei_items {d : Addr} {ks : List (Int × Rp)} (h : EvM B [d] te ctx ms (rDctAt d ks) ms1) : EvI B [d] (iItems te) ctx ms (ks.map fun p => rTup [rI p.1, p.2]) ms1 := fun σ G H S R k => h σ G H S _ fun v G1 H1 e1 S1 ⟨ev, xs, ha, hal⟩ => by
  obtain ⟨o, ho⟩ := frz_at S1 ha
  refine ⟨d, o, xs, ev, ho, k _ G1 H1 e1 S1 ⟨fun {B ctx ms σ G H i r} e el S hr => ?_, fun {B ctx ms σ G H i} e el S hi => ?_⟩⟩
  · have q : H d = some (.frz o (.dK xs)) := by rw [el d (by simp)]; exact ho
    rw [List.getElem?_map] at hr
    cases hp : ks[i]? with
    | none => rw [hp] at hr; cases hr
    | some p =>
      rw [hp] at hr
      cases hr
      obtain ⟨x, hx, hok⟩ := hal.get hp
      refine ⟨⟨q, (List.getElem?_eq_some_iff.mp hx).1⟩, fun y H' z => ?_⟩
      obtain ⟨T, k', v', z2, z3, z4, z5⟩ := z
      rw [hx] at z2
      cases z2
      subst z3 z5
      obtain ⟨e2, S2⟩ := S.new (o := .tup [kV (Sum.inl p.1), x]) z4
      exact ⟨_, e2, S2, T, _, rfl, upd_same, .cons rfl (.cons (p.2.mono (e.trans e2) hok) .nil)⟩
  · rw [List.length_map] at hi
    exact ⟨by rw [el d (by simp)]; exact ho, by rw [← Paired.length hal]; exact hi⟩

/-! ### comprehensions -/
/-- the locked dicts stay as they are -/
theorem Sx.locks {L : List Addr} {σ σ' : L2.St} {G H G' H' : Hp} (S : Sx B L ctx ms σ G H) (S' : Sx ⟨ms.map (·.1), G, H⟩ L ctx1 ms1 σ' G' H') : ∀ d ∈ L, H' d = H d := fun d hd => by
  obtain ⟨o, ho⟩ := S.ex.lk d hd
  obtain ⟨u, hu⟩ := S.ex.some_ ho
  have n : d ∉ ms.map (·.1) := fun m => by
    obtain ⟨q, hq, e⟩ := List.mem_map.mp m
    have := S.mem.out q hq
    rw [e, ho] at this
    cases this
  have h1 : H d = some u := hu
  rw [h1]
  exact S'.stp.keep d u n hu
theorem Sx.same_ {L : List Addr} {σ σ' : L2.St} {G H G' H' : Hp} (S : Sx B L ctx ms σ G H) (S' : Sx ⟨ms.map (·.1), G, H⟩ L ctx1 ms1 σ' G' H') : Same G G' := S'.stp.same S.ex
/-- [te for g in wi if tt]: what is in the new list is told by inv -/
theorem ev_lc0 {vs : List Nat} (hi : EvI B L wi ctx ms rs ms1) (hn : rs.length ≤ 100000) (inv : Nat → List Rp → Prop) (h0 : inv 0 [])
    (turn : ∀ i r ys, rs[i]? = some r → inv i ys → ∃ (ctx1 : Ct) (P : Bool → Prop) (e : Rp), GM g r (wipeC ctx vs) ctx1 vs ∧ (∀ B, EvP B L tt ctx1 ms1 P ms1) ∧ (P true → ∀ B, EvM B L te ctx1 ms1 e ms1) ∧ (P true → inv (i + 1) (ys ++ [e])) ∧ (P false → inv (i + 1) ys)) :
    EvM B L (tLc wi g tt te vs) ctx ms (rEx (fun ys => inv rs.length ys) rLst) ms1 := fun σ G H S Q k => hi σ G H S _ fun J G1 H1 e1 S1 src => by
  intro D hD
  have gD : G1 D = none := S1.ex.free hD
  -- the base within: the new list stands aside
  have S2 : Sx ⟨ms1.map (·.1), G1, upd H1 D (.lst [])⟩ L ctx ms1 σ G1 (upd H1 D (.lst [])) := by
    refine ⟨S1.sl, S1.ex.up fun b u n e => by rw [upd_ne (fun z => n (by rw [z]; exact gD))]; exact e, ⟨fun q hq => ?_, S1.mem.out, S1.mem.nd⟩, Stp.refl, fun p hp => .inl (List.mem_map.mpr ⟨p, hp, rfl⟩)⟩
    obtain ⟨u, hu⟩ := (S1.mem.at_ q hq).some_
    exact (S1.mem.at_ q hq).move (Same.refl G1) (upd_ne (ne_of_none hu hD))
  have nD : D ∉ ms1.map (·.1) := fun m => by
    obtain ⟨q, hq, e⟩ := List.mem_map.mp m
    obtain ⟨u, hu⟩ := (S1.mem.at_ q hq).some_
    rw [e, hD] at hu
    cases hu
  have dL : ∀ d ∈ L, d ≠ D := fun d hd e => by
    obtain ⟨o, ho⟩ := S1.ex.lk d hd
    rw [e, gD] at ho
    cases ho
  -- the state at a turn
  let W : Nat → Hp → Prop := fun i H => i ≤ rs.length ∧ ∃ ys xs G, inv i ys ∧ ys.length ≤ i ∧ H D = some (.lst xs) ∧ Al ys xs G ∧ Same G1 G ∧ G D = none ∧ (∀ d ∈ L, H d = H1 d) ∧ Sx ⟨ms1.map (·.1), G1, H1⟩ L ctx ms1 σ G H
  have reD : ∀ {xs : List V} {G H : Hp} {σ' : L2.St} {ctx' : Ct} {ms' : Ms}, (∀ p ∈ ms', p.1 ≠ D) → G D = none → Sx ⟨ms1.map (·.1), G1, H1⟩ L ctx' ms' σ' G H → Sx ⟨ms1.map (·.1), G1, H1⟩ L ctx' ms' σ' G (upd H D (.lst xs)) := fun {xs G H σ' ctx' ms'} hne hG S => by
    refine ⟨S.sl, S.ex.up fun b u n e => by rw [upd_ne (fun z => n (by rw [z]; exact hG))]; exact e, ⟨fun q hq => (S.mem.at_ q hq).move (Same.refl G) (upd_ne (hne q hq)), S.mem.out, S.mem.nd⟩, ⟨S.stp.old, fun b u n e => ?_, fun b u e => ?_⟩, S.own⟩
    · have : b ≠ D := ne_of_none e hD
      rw [upd_ne this]
      exact S.stp.keep b u n e
    · have : b ≠ D := ne_of_none e hD
      rw [upd_ne this]
      exact S.stp.there b u e
  have msD : ∀ p ∈ ms1, p.1 ≠ D := fun p hp e => nD (List.mem_map.mpr ⟨p, hp, e⟩)
  refine ⟨fun i m H => m = rs.length - i ∧ W i H, ⟨rs.length, by simp, Nat.zero_le _, [], [], G1, h0, Nat.le_refl _, upd_same, .nil, Same.refl G1, gD, fun d hd => upd_ne (dL d hd), reD msD gD S1.re⟩, ?_⟩
  rintro i m H' ⟨rfl, hle, ys, xs, G', hinv, hyl, hDx, hal, eG, gD', eL, S'⟩
  by_cases hlt : i < rs.length
  · have hr : rs[i]? = some rs[i] := List.getElem?_eq_getElem hlt
    obtain ⟨go, yld⟩ := src.go eG eL S' hr
    refine .inr ⟨go, W (i + 1), fun H'' w => ⟨rs.length - (i + 1), by omega, rfl, w⟩, fun x H2 y => ?_⟩
    -- the item comes, D stays
    have SD : Sx ⟨ms1.map (·.1), G', H'⟩ L ctx ms1 σ G' H' := S'.re
    obtain ⟨go2, yld2⟩ := src.go eG eL SD hr
    obtain ⟨G2, e2, S3, hx⟩ := yld2 x H2 y
    obtain ⟨ctx1, P, e, hg, ht, he, hP1, hP0⟩ := turn i _ ys hr hinv
    have S3' : Sx ⟨ms1.map (·.1), G', H'⟩ L (wipeC ctx vs) ms1 (wipe σ vs) G2 H2 := S3.ctx_ (S3.sl.wipe vs)
    refine hg _ L ms1 (wipe σ vs) G2 H2 x S3' hx _ fun σ3 S4 hw => ⟨wipe_wipe hw |>.trans rfl, ?_⟩
    refine ht _ σ3 G2 H2 S4 _ fun b G3 H3 pb e3 S5 => ?_
    have keepD : ∀ {ctx' : Ct} {σ' : L2.St} {G4 H4 : Hp}, Sx ⟨ms1.map (·.1), G', H'⟩ L ctx' ms1 σ' G4 H4 → H4 D = some (.lst xs) ∧ G4 D = none ∧ Same G' G4 ∧ (∀ d ∈ L, H4 d = H1 d) ∧ Sx ⟨ms1.map (·.1), G1, H1⟩ L ctx ms1 σ G4 H4 := fun {ctx' σ' G4 H4} S6 => by
      have e6 : Same G' G4 := S6.stp.same S'.ex
      refine ⟨S6.stp.keep D _ nD hDx, by rw [S6.stp.old D _ hDx]; exact gD', e6, fun d hd => ?_, ?_⟩
      · rw [← eL d hd]; exact Sx.locks S' S6 d hd
      · exact (S'.un S6).ctx_ (S'.sl.mono e6)
    cases b with
    | true =>
      refine he pb _ σ3 G3 H3 S5 _ fun v G4 H4 e4 S6 hv => ?_
      obtain ⟨k1, k2, k3, k4, k5⟩ := keepD S6
      refine ⟨xs, k1, line_lt ?_, hlt, ys ++ [e], xs ++ [v], G4, hP1 pb, by rw [List.length_append]; exact Nat.succ_le_succ hyl, upd_same, (hal.mono k3).app (.cons hv .nil), eG.trans k3, k2, fun d hd => by rw [upd_ne (dL d hd)]; exact k4 d hd, reD msD k2 k5⟩
      rw [← hal.len]
      omega
    | false =>
      obtain ⟨k1, k2, k3, k4, k5⟩ := keepD S5
      exact ⟨hlt, ys, xs, G3, hP0 pb, by omega, k1, hal.mono k3, eG.trans k3, k2, k4, k5⟩
  · have e : i = rs.length := by omega
    subst e
    refine .inl ⟨src.stop eG eL S' (Nat.le_refl _), ?_⟩
    -- the list becomes pure
    have e3 : Same G' (upd G' D (.lst xs)) := same_upd gD'
    have S4 : Sx B L ctx ms1 σ G' H' := S1.un S'
    refine k (.ref D) (upd G' D (.lst xs)) H' (e1.trans (eG.trans e3)) ⟨S4.sl.mono e3, S4.ex.take gD' hDx, ⟨fun q hq => (S4.mem.at_ q hq).move e3 rfl, fun q hq => by rw [upd_ne (msD q hq)]; exact S4.mem.out q hq, S4.mem.nd⟩, ⟨fun b u q => ?_, S4.stp.keep, S4.stp.there⟩, S4.own⟩ ⟨ys, hinv, D, xs, rfl, upd_same, hal.mono e3⟩
    have nb : b ≠ D := fun z => by
      subst z
      obtain ⟨u', q'⟩ := S1.stp.there b u q
      rw [hD] at q'
      cases q'
    rw [upd_ne nb]
    exact S4.stp.old b u q
/-- over things like f a, those with b kept, e a made of each -/
theorem ev_lc {α : Type} {vs : List Nat} (ls : List α) {f : α → Rp} {c1 : α → Ct} {b : α → Bool} {e : α → Rp} (hi : EvI B L wi ctx ms (ls.map f) ms1) (hn : ls.length ≤ 100000)
    (hg : ∀ a ∈ ls, GM g (f a) (wipeC ctx vs) (c1 a) vs) (ht : ∀ a ∈ ls, ∀ B, EvT B L tt (c1 a) ms1 (b a) ms1) (he : ∀ a ∈ ls, b a = true → ∀ B, EvM B L te (c1 a) ms1 (e a) ms1) :
    EvM B L (tLc wi g tt te vs) ctx ms (rLst ((ls.filter b).map e)) ms1 := by
  refine ev_imp (ev_lc0 hi (by rw [List.length_map]; exact hn) (fun i ys => ys = ((ls.take i).filter b).map e) (by simp) fun i r ys hr hinv => ?_) fun v G ⟨ys, h1, h2⟩ => ?_
  · rw [List.getElem?_map] at hr
    cases hq : ls[i]? with
    | none => rw [hq] at hr; cases hr
    | some a =>
      rw [hq] at hr
      cases hr
      have ha : a ∈ ls := List.mem_of_getElem? hq
      have ht' : ls.take (i + 1) = ls.take i ++ [a] := by rw [List.take_add_one, hq]; rfl
      refine ⟨c1 a, fun c => b a = c, e a, hg a ha, fun B => ep_of (ht a ha B), fun z B => he a ha z B, fun z => ?_, fun z => ?_⟩
      · rw [ht', List.filter_append, hinv]
        simp [z]
      · rw [ht', List.filter_append, hinv]
        simp [z]
  · rw [List.length_map, List.take_length] at h1
    subst h1
    exact h2
/-- .. all of them -/
theorem ev_lcA {α : Type} {vs : List Nat} (ls : List α) {f : α → Rp} {c1 : α → Ct} {e : α → Rp} (hi : EvI B L wi ctx ms (ls.map f) ms1) (hn : ls.length ≤ 100000)
    (hg : ∀ a ∈ ls, GM g (f a) (wipeC ctx vs) (c1 a) vs) (he : ∀ a ∈ ls, ∀ B, EvM B L te (c1 a) ms1 (e a) ms1) :
    EvM B L (tLc wi g tYes te vs) ctx ms (rLst (ls.map e)) ms1 := by
  have z := ev_lc (b := fun _ => true) ls hi hn hg (fun a ha B => et_yes) fun a ha _ B => he a ha B
  rw [show ls.filter (fun _ => true) = ls from List.filter_eq_self.mpr fun _ _ => rfl] at z
  exact z

/-! ### loops -/
theorem st_for {ι : Type} {D : Ends} {tb : TS} {σ : L2.St} {G H : Hp} (hi : EvI B L wi ctx ms rs ms1) (S : Sx B L ctx ms σ G H) (inv : Nat → ι → Prop) (cf : ι → Ct) (mf : ι → Ms) (a0 : ι) (h0 : inv 0 a0)
    (start : ∀ B σ G H, Sx B L ctx ms1 σ G H → Sx B L (cf a0) (mf a0) σ G H)
    (turn : ∀ (B1 : Bs) (G1 H1 : Hp) (i : Nat) (r : Rp) (a : ι) (σ' : L2.St) (G' H' : Hp), Same G G1 → rs[i]? = some r → inv i a → Same G1 G' → (∀ d ∈ L, H' d = H1 d) → (∀ {ctx' ms' σ' G' H'}, Sx B1 L ctx' ms' σ' G' H' → Sx B L ctx' ms' σ' G' H') → (∀ {ctx' ms' σ' G' H'}, Sx B1 L ctx' ms' σ' G' H' → Same G1 G') → Sx B1 L (cf a) (mf a) σ' G' H' →
      ∃ (ctx1 : Ct) (vs : List Nat), GM g r (cf a) ctx1 vs ∧ ∀ σ2 G2 H2, Same G' G2 → Sx B1 L ctx1 (mf a) σ2 G2 H2 →
        tb { D with nx := fun σ H => ∃ a' G', inv (i + 1) a' ∧ Sx B1 L (cf a') (mf a') σ G' H, ct := fun σ H => ∃ a' G', inv (i + 1) a' ∧ Sx B1 L (cf a') (mf a') σ G' H, bk := D.nx } σ2 H2)
    (done : ∀ a σ' G' H', inv rs.length a → Same G G' → Sx B L (cf a) (mf a) σ' G' H' → D.nx σ' H') : tFor wi g tb D σ H := hi σ G H S _ fun J G1 H1 e1 S1 src => by
  let B1 : Bs := ⟨ms1.map (·.1), G1, H1⟩
  have un : ∀ {ctx' ms' σ' G' H'}, Sx B1 L ctx' ms' σ' G' H' → Sx B L ctx' ms' σ' G' H' := fun S' => S1.un S'
  have sm : ∀ {ctx' ms' σ' G' H'}, Sx B1 L ctx' ms' σ' G' H' → Same G1 G' := fun S' => S1.same_ S'
  have lk : ∀ {ctx' ms' σ' G' H'}, Sx B1 L ctx' ms' σ' G' H' → ∀ d ∈ L, H' d = H1 d := fun S' => S1.locks S'
  refine ⟨fun i m σ H => m = rs.length - i ∧ i ≤ rs.length ∧ ∃ a' G', inv i a' ∧ Sx B1 L (cf a') (mf a') σ G' H, ⟨rs.length, by simp, Nat.zero_le _, a0, G1, h0, start _ _ _ _ S1.re⟩, ?_⟩
  rintro i m σ' H' ⟨rfl, hle, a, G', hinv, S'⟩
  by_cases hlt : i < rs.length
  · have hr : rs[i]? = some rs[i] := List.getElem?_eq_getElem hlt
    obtain ⟨go, yld⟩ := src.go (sm S') (lk S') S' hr
    refine .inr ⟨go, fun σ H => ∃ a' G', inv (i + 1) a' ∧ Sx B1 L (cf a') (mf a') σ G' H, fun σ' H'' w => ⟨rs.length - (i + 1), by omega, rfl, hlt, w⟩, fun x H2 y => ?_⟩
    obtain ⟨G2, e2, S3, hx⟩ := yld x H2 y
    obtain ⟨ctx1, vs, hg, body⟩ := turn B1 G1 H1 i _ a σ' G2 H2 e1 hr hinv (sm S3) (lk S3) un sm S3
    exact hg B1 L _ σ' G2 H2 x S3 hx _ fun σ3 S4 _ => body σ3 G2 H2 (Same.refl G2) S4
  · have e : i = rs.length := by omega
    subst e
    exact .inl ⟨src.stop (sm S') (lk S') S' (Nat.le_refl _), done a σ' G' H' hinv (e1.trans (sm S')) (un S')⟩
theorem st_while {ι : Type} {D : Ends} {tb : TS} {c : TT} {σ : L2.St} {G H : Hp} (S : Sx B L ctx ms σ G H) (inv : ι → Prop) (μ : ι → Nat) (cf : ι → Ct) (mf : ι → Ms) (a0 : ι) (h0 : inv a0) (start : Sx B L (cf a0) (mf a0) σ G H) (bf : ι → Bool)
    (test : ∀ a, inv a → EvT B L c (cf a) (mf a) (bf a) (mf a))
    (body : ∀ a, inv a → bf a = true → ∀ σ' G' H', Same G G' → Sx B L (cf a) (mf a) σ' G' H' →
      tb { D with nx := fun σ H => ∃ a' G', inv a' ∧ μ a' < μ a ∧ Same G G' ∧ Sx B L (cf a') (mf a') σ G' H, ct := fun σ H => ∃ a' G', inv a' ∧ μ a' < μ a ∧ Same G G' ∧ Sx B L (cf a') (mf a') σ G' H, bk := D.nx } σ' H')
    (done : ∀ a σ' G' H', inv a → bf a = false → Same G G' → Sx B L (cf a) (mf a) σ' G' H' → D.nx σ' H') : tWhile c tb D σ H := by
  refine ⟨fun m σ H => ∃ a G', m = μ a ∧ inv a ∧ Same G G' ∧ Sx B L (cf a) (mf a) σ G' H, ⟨μ a0, a0, G, rfl, h0, Same.refl G, start⟩, ?_⟩
  rintro m σ' H' ⟨a, G', rfl, ha, e, S'⟩
  refine test a ha σ' G' H' S' _ fun G2 H2 e2 S2 => ?_
  cases hb : bf a with
  | true =>
    rw [if_pos rfl]
    exact ⟨_, fun σ3 H3 ⟨a', G3, h1, h2, h3, h4⟩ => ⟨μ a', h2, a', G3, rfl, h1, h3, h4⟩, body a ha hb σ' G2 H2 (e.trans e2) S2⟩
  | false =>
    rw [if_neg (by simp)]
    exact done a σ' G2 H2 ha hb (e.trans e2) S2
end
end K62
set_option maxHeartbeats 4000000
/-! K62Dict: dicts: made, read, written. -/
namespace K62
open PySem PySem.Spec PyProof.Rows L2
theorem AlK.any {ks : List (Int × Rp)} {xs : List (Key × V)} {G : Hp} {k : Int} (h : AlK ks xs G) : (xs.any fun kv => decide (kv.1 = (Sum.inl k : Key))) = ks.any fun p => decide (p.1 = k) := by
  induction h with
  | nil => rfl
  | @cons p q ps qs hpq t ih =>
    obtain ⟨j, s⟩ := p
    obtain ⟨j', x⟩ := q
    obtain ⟨h1, h2⟩ := hpq
    have h1 : j' = Sum.inl j := h1
    subst h1
    rw [List.any_cons, List.any_cons, ih]
    congr 1
    exact decide_eq_decide.mpr ⟨fun e => Sum.inl.inj e, fun e => congrArg Sum.inl e⟩
theorem AlK.rep {k : Int} {r : Rp} {v : V} {G : Hp} (hv : r.ok v G) : ∀ {ks : List (Int × Rp)} {xs : List (Key × V)}, AlK ks xs G → AlK (ks.map fun p => if p.1 = k then (p.1, r) else p) (xs.map fun kv => if kv.1 = (Sum.inl k : Key) then (kv.1, v) else kv) G
  | _, _, .nil => .nil
  | (j, s) :: ps, (j', x) :: qs, .cons ⟨h1, h2⟩ t => by
    have h1 : j' = Sum.inl j := h1
    subst h1
    rw [List.map_cons, List.map_cons]
    refine .cons ?_ (AlK.rep hv t)
    by_cases e : j = k
    · subst e
      rw [if_pos rfl, if_pos rfl]
      exact ⟨rfl, hv⟩
    · rw [if_neg e, if_neg (fun z => e (Sum.inl.inj z))]
      exact ⟨rfl, h2⟩
theorem AlK.app : ∀ {ks ls : List (Int × Rp)} {xs ys : List (Key × V)} {G : Hp}, AlK ks xs G → AlK ls ys G → AlK (ks ++ ls) (xs ++ ys) G
  | _, _, _, _, _, .nil, s => s
  | _, _, _, _, _, .cons h t, s => .cons h (AlK.app t s)
theorem AlK.put {ks : List (Int × Rp)} {xs : List (Key × V)} {G : Hp} {k : Int} {r : Rp} {v : V} (h : AlK ks xs G) (hv : r.ok v G) : AlK (putI k r ks) (putK xs (Sum.inl k : Key) v) G := by
  unfold putK putI
  rw [AlK.any h]
  split
  · exact AlK.rep hv h
  · exact AlK.app h (.cons ⟨rfl, hv⟩ .nil)
theorem putI_new {α : Type} {k : Int} {x : α} {ks : List (Int × α)} (h : ∀ p ∈ ks, p.1 ≠ k) : putI k x ks = ks ++ [(k, x)] := by
  unfold putI
  rw [if_neg]
  intro z
  obtain ⟨p, hp, e⟩ := List.any_eq_true.mp z
  exact h p hp (of_decide_eq_true e)
theorem look_rep {α : Type} {k j : Int} {x : α} : ∀ {ks : List (Int × α)}, (ks.map fun p => if p.1 = k then (p.1, x) else p).lookup j = if j = k then (ks.lookup k).map (fun _ => x) else ks.lookup j
  | [] => by by_cases e : j = k <;> simp [e]
  | (i, y) :: t => by
    rw [List.map_cons, List.lookup_cons, List.lookup_cons]
    have ih := look_rep (k := k) (j := j) (x := x) (ks := t)
    by_cases e : i = k
    · subst e
      by_cases e2 : j = i
      · subst e2; simp
      · have z : (j == i) = false := beq_eq_false_iff_ne.mpr e2
        rw [if_neg e2] at ih ⊢
        simp [List.lookup_cons, z, ih]
    · by_cases e2 : j = k
      · subst e2
        have z : (j == i) = false := beq_eq_false_iff_ne.mpr fun h => e h.symm
        rw [if_pos rfl] at ih ⊢
        simp [List.lookup_cons, z, e, ih]
      · rw [if_neg e2] at ih ⊢
        rw [if_neg e, ih]
        cases hj : j == i <;> simp [List.lookup_cons, hj]
theorem any_look {α : Type} {k : Int} : ∀ {ks : List (Int × α)}, (ks.any fun p => decide (p.1 = k)) = (ks.lookup k).isSome
  | [] => rfl
  | (i, y) :: t => by
    rw [List.any_cons, List.lookup_cons, any_look (ks := t)]
    by_cases e : i = k
    · subst e; simp
    · have z : (k == i) = false := beq_eq_false_iff_ne.mpr fun h => e h.symm
      simp [z, e]
theorem look_app {α : Type} {j : Int} : ∀ {ks ls : List (Int × α)}, (ks ++ ls).lookup j = (ks.lookup j).or (ls.lookup j)
  | [], _ => by simp
  | (i, y) :: t, ls => by
    rw [List.cons_append, List.lookup_cons, List.lookup_cons, look_app (ks := t)]
    cases j == i <;> simp
theorem putI_look {α : Type} {k j : Int} {x : α} {ks : List (Int × α)} : lookI j (putI k x ks) = if j = k then some x else lookI j ks := by
  unfold putI lookI
  split
  · rename_i h
    rw [any_look] at h
    rw [look_rep]
    by_cases e : j = k
    · rw [if_pos e, if_pos e]
      cases q : ks.lookup k with
      | none => rw [q] at h; cases h
      | some y => rfl
    · rw [if_neg e, if_neg e]
  · rename_i h
    rw [any_look] at h
    rw [look_app]
    by_cases e : j = k
    · subst e
      rw [if_pos rfl]
      cases q : ks.lookup j with
      | none => simp
      | some y => rw [q] at h; exact absurd rfl h
    · rw [if_neg e]
      have z : (j == k) = false := beq_eq_false_iff_ne.mpr e
      cases q : ks.lookup j <;> simp [List.lookup_cons, z]
section
variable {B : Bs} {L : List Addr} {ctx ctx1 : Ct} {ms ms1 ms2 : Ms} {te tb tk tv : TE} {ta : TA} {r r1 r2 : Rp} {rs ss : List Rp} {K : PySem.W.Frag} {tt : TT} {wi : TI} {g : TG} {b : Bool}
theorem EvM.lk (h : EvM B L te ctx ms r ms1) : EvM B L te ctx ms r ms1 := h
/-! ### reading -/
theorem dget_pure {d : Addr} {xs : List (Key × V)} {G H : Hp} {k : Key} (x : ExL L G H) (h : G d = some (.dK xs)) : DGet H d (kV k) (valV xs k) := .inl ⟨xs, k, x.dct h, rfl, rfl⟩
theorem ev_dget {ks : List (Int × Rp)} {k : Int} (hd : EvM B L te ctx ms (rDct ks) ms1) (hk : EvM B L tb ctx ms1 (rI k) ms2) (h : lookI k ks = some r) : EvM B L (tDGet te tb) ctx ms r ms2 := fun σ G H S Q q =>
  hd σ G H S _ fun v G1 H1 e1 S1 ⟨d, xs, ev, ha, hal⟩ => hk σ G1 H1 S1 _ fun w G2 H2 e2 S2 ew => by
    have z := AlK.look (k := k) hal
    rw [h] at z
    obtain ⟨y, hy, hr⟩ := z
    have ew : w = .int k := ew
    subst ew
    have g : DGet H2 d (kV (Sum.inl k)) (valV xs (Sum.inl k)) := dget_pure S2.ex (e2 _ _ ha)
    rw [hy] at g
    exact ⟨d, y, ev, g, q y G2 H2 (e1.trans e2) S2 (r.mono e2 hr)⟩
theorem ev_din {ks : List (Int × Rp)} {k : Int} (hk : EvM B L tb ctx ms (rI k) ms1) (hd : EvM B L te ctx ms1 (rDct ks) ms2) : EvM B L (tDIn tb te) ctx ms (rB (lookI k ks).isSome) ms2 := fun σ G H S Q q =>
  hk σ G H S _ fun w G1 H1 e1 S1 ew => hd σ G1 H1 S1 _ fun v G2 H2 e2 S2 ⟨d, xs, ev, ha, hal⟩ => by
    have z := AlK.look (k := k) hal
    have ew : w = .int k := ew
    subst ew
    refine ⟨d, _, ev, dget_pure (k := Sum.inl k) S2.ex ha, q _ G2 H2 (e1.trans e2) S2 ?_⟩
    show V.bl _ = V.bl _
    cases hl : lookI k ks with
    | none => rw [hl] at z; rw [z]; rfl
    | some r => rw [hl] at z; obtain ⟨y, hy, _⟩ := z; rw [hy]; rfl
theorem ev_dnotin {ks : List (Int × Rp)} {k : Int} (hk : EvM B L tb ctx ms (rI k) ms1) (hd : EvM B L te ctx ms1 (rDct ks) ms2) : EvM B L (tDNotIn tb te) ctx ms (rB (!(lookI k ks).isSome)) ms2 := fun σ G H S Q q =>
  hk σ G H S _ fun w G1 H1 e1 S1 ew => hd σ G1 H1 S1 _ fun v G2 H2 e2 S2 ⟨d, xs, ev, ha, hal⟩ => by
    have z := AlK.look (k := k) hal
    have ew : w = .int k := ew
    subst ew
    refine ⟨d, _, ev, dget_pure (k := Sum.inl k) S2.ex ha, q _ G2 H2 (e1.trans e2) S2 ?_⟩
    show V.bl _ = V.bl _
    cases hl : lookI k ks with
    | none => rw [hl] at z; rw [z]; rfl
    | some r => rw [hl] at z; obtain ⟨y, hy, _⟩ := z; rw [hy]; rfl
/-! ### reading a cell -/
theorem ev_dgetM {d : Addr} {ks : List (Int × Rp)} {k : Int} {j : Nat} (hd : EvM B L te ctx ms (rV (.ref d)) ms1) (hk : EvM B L tb ctx ms1 (rI k) ms2) (hj : ms2[j]? = some (d, .dct ks)) (h : lookI k ks = some r) : EvM B L (tDGet te tb) ctx ms r ms2 := fun σ G H S Q q =>
  hd σ G H S _ fun v G1 H1 e1 S1 ev => hk σ G1 H1 S1 _ fun w G2 H2 e2 S2 ew => by
    have c : CAt d G2 H2 (.dct ks) := S2.mem.at_ _ (List.mem_of_getElem? hj)
    cases c with
    | @dct _ xs ha hal =>
      have z := AlK.look (k := k) hal
      rw [h] at z
      obtain ⟨y, hy, hr⟩ := z
      have ew : w = .int k := ew
      subst ew
      have g : DGet H2 d (kV (Sum.inl k)) (valV xs (Sum.inl k)) := .k ha
      rw [hy] at g
      exact ⟨d, y, ev, g, q y G2 H2 (e1.trans e2) S2 hr⟩
theorem ev_dinM {d : Addr} {ks : List (Int × Rp)} {k : Int} {j : Nat} (hk : EvM B L tb ctx ms (rI k) ms1) (hd : EvM B L te ctx ms1 (rV (.ref d)) ms2) (hj : ms2[j]? = some (d, .dct ks)) : EvM B L (tDIn tb te) ctx ms (rB (lookI k ks).isSome) ms2 := fun σ G H S Q q =>
  hk σ G H S _ fun w G1 H1 e1 S1 ew => hd σ G1 H1 S1 _ fun v G2 H2 e2 S2 ev => by
    have c : CAt d G2 H2 (.dct ks) := S2.mem.at_ _ (List.mem_of_getElem? hj)
    cases c with
    | @dct _ xs ha hal =>
      have z := AlK.look (k := k) hal
      have ew : w = .int k := ew
      subst ew
      refine ⟨d, _, ev, DGet.k (k := Sum.inl k) ha, q _ G2 H2 (e1.trans e2) S2 ?_⟩
      show V.bl _ = V.bl _
      cases hl : lookI k ks with
      | none => rw [hl] at z; rw [z]; rfl
      | some r => rw [hl] at z; obtain ⟨y, hy, _⟩ := z; rw [hy]; rfl
theorem ev_dnotinM {d : Addr} {ks : List (Int × Rp)} {k : Int} {j : Nat} (hk : EvM B L tb ctx ms (rI k) ms1) (hd : EvM B L te ctx ms1 (rV (.ref d)) ms2) (hj : ms2[j]? = some (d, .dct ks)) : EvM B L (tDNotIn tb te) ctx ms (rB (!(lookI k ks).isSome)) ms2 := fun σ G H S Q q =>
  hk σ G H S _ fun w G1 H1 e1 S1 ew => hd σ G1 H1 S1 _ fun v G2 H2 e2 S2 ev => by
    have c : CAt d G2 H2 (.dct ks) := S2.mem.at_ _ (List.mem_of_getElem? hj)
    cases c with
    | @dct _ xs ha hal =>
      have z := AlK.look (k := k) hal
      have ew : w = .int k := ew
      subst ew
      refine ⟨d, _, ev, DGet.k (k := Sum.inl k) ha, q _ G2 H2 (e1.trans e2) S2 ?_⟩
      show V.bl _ = V.bl _
      cases hl : lookI k ks with
      | none => rw [hl] at z; rw [z]; rfl
      | some r => rw [hl] at z; obtain ⟨y, hy, _⟩ := z; rw [hy]; rfl
/-! ### new objects that will change -/
theorem ev_dnewM (Q0 : Prop := True) {σ : L2.St} {G H : Hp} {Q : VK} (S : Sx B L ctx ms σ G H) (k : ∀ d H', G d = none → Sx B L ctx ((d, .dct []) :: ms) σ G H' → (∀ b u, H b = some u → H' b = some u) → Q (.ref d) H') : tDNewK σ H Q := fun p hp =>
  k p _ (S.ex.free hp) (S.newM hp (.dct upd_same .nil)) fun b u e => by rw [upd_ne (ne_of_none e hp)]; exact e
theorem ev_lstM {tl : TA} {σ : L2.St} {G H : Hp} {Q : VK} (h : EvA B L tl ctx ms rs ms1) (hl : rs.length ≤ 100000) (S : Sx B L ctx ms σ G H) (k : ∀ d G' H', Same G G' → Sx B L ctx ((d, .lst rs) :: ms1) σ G' H' → Q (.ref d) H') : tLst tl σ H Q :=
  h σ G H S _ fun xs G1 H1 e1 S1 q1 => ⟨line_of (by rw [← q1.len]; exact hl), fun p hp => k p G1 _ e1 (S1.newM hp (.lst upd_same q1))⟩
/-- d[k] = v, d a cell -/
theorem st_dput {D : Ends} {σ : L2.St} {G H : Hp} {d : Addr} {ks : List (Int × Rp)} {k : Int} {j : Nat} {ms3 : Ms} (hv : EvM B L tv ctx ms r ms1) (hd : EvM B L te ctx ms1 (rV (.ref d)) ms2) (hk : EvM B L tb ctx ms2 (rI k) ms3) (hj : ms3[j]? = some (d, .dct ks)) (hl : ks.length < 100000) (S : Sx B L ctx ms σ G H)
    (q : ∀ G' H', Same G G' → Sx B L ctx (ms3.set j (d, .dct (putI k r ks))) σ G' H' → D.nx σ H') : sDPut te tb tv D σ H :=
  hv σ G H S _ fun v G1 H1 e1 S1 q1 => hd σ G1 H1 S1 _ fun x G2 H2 e2 S2 ex => hk σ G2 H2 S2 _ fun y G3 H3 e3 S3 ey => by
    have c : CAt d G3 H3 (.dct ks) := S3.mem.at_ _ (List.mem_of_getElem? hj)
    cases c with
    | @dct _ xs ha hal =>
      have ey : y = .int k := ey
      subst ey
      exact ⟨d, _, ex, DPut.k (k := Sum.inl k) ha (line_lt (by rw [← Paired.length hal]; exact hl)), q G3 _ (e1.trans (e2.trans e3)) (S3.put hj (.dct upd_same (AlK.put hal (r.mono (e2.trans e3) q1))))⟩
end
end K62
set_option maxHeartbeats 4000000
/-! K62Rules: instances of the own classes: methods, properties, in, [], len, str, ==, !=. -/
namespace K62
open PySem PySem.Spec PyProof.Rows L2
section
variable {X : Cx} {CX : CXT} {pins : List (Addr × Obj)} {σ : L2.St} {H : Hp} {s : Shared} {a C dx g : Addr} {fs : List (Str × V)} {n : Nat} {sp : Sp} {E : XK}
theorem inst_at (I : Inv X pins σ H s) (ea : H a = some (.ins C dx fs)) : ∃ ox od, PySem.W.InstAt s.heap a ox C (some od) := by
  obtain ⟨mA, O, _, _, _, _⟩ := ins_get I.hok ea
  obtain ⟨od, J, _⟩ := O.look
  exact ⟨_, od, J⟩
/-- x in o, o an instance whose class has __contains__ -/
def rInO (C : Addr) (sp : Sp) (E : XK) (neg : Bool) : R2 := fun x y H Q => ∃ a dx fs, y = .ref a ∧ H a = some (.ins C dx fs) ∧ sp [.ref a, x] H (fun z H' => ∃ b, z = .bl b ∧ Q (.bl (if neg then !b else b)) H') E
theorem truthy_b {M : Model} {A : Around} {E : Value → Shared → Prop} {s : Shared} {b : Bool} {Q : Bool → Shared → Prop} (h : Q b s) : wpAny M A (truthy (.bool b)) Q E s := wpAny_truthy_bool h
theorem op_inO (hs : PySem.W.findIn X.K (.ref C) "__contains__" = some (some (.ref g))) (hf : PySem.W.isFn X.K (.ref g) = true) (F : FnR X.prog X.w X.K X.mg X.base CX n g sp) (hr : Room n X.A) (hx : Passes CX X E) : OpR X (compareOp .In) (rInO C sp E false) := by
  intro pins s σ H x y v u Q I rx ry h
  obtain ⟨a, dx, fs, rfl, ha, q⟩ := h
  cases (show u = Value.ref a from ry)
  obtain ⟨ox, od, J⟩ := inst_at I ha
  obtain ⟨m, hF⟩ := I.fr
  refine PySem.W.in_K hF I.ok.mod.kin J hs hf (wpAny_mono (wpAny_call (run_fnR (us := [.ref a, v]) (vs := [.ref a, x]) F hr hx I (.cons rfl (.cons rx .nil)) q)) (fun w s' z => ?_) fun _ _ x => x)
  obtain ⟨z', H', I', rz, b, eb, qz⟩ := z
  subst eb
  cases (show w = Value.bool b from rz)
  exact truthy_b ⟨.bl b, H', I', rfl, qz⟩
theorem op_notInO (hs : PySem.W.findIn X.K (.ref C) "__contains__" = some (some (.ref g))) (hf : PySem.W.isFn X.K (.ref g) = true) (F : FnR X.prog X.w X.K X.mg X.base CX n g sp) (hr : Room n X.A) (hx : Passes CX X E) : OpR X (compareOp .NotIn) (rInO C sp E true) := by
  intro pins s σ H x y v u Q I rx ry h
  obtain ⟨a, dx, fs, rfl, ha, q⟩ := h
  cases (show u = Value.ref a from ry)
  obtain ⟨ox, od, J⟩ := inst_at I ha
  obtain ⟨m, hF⟩ := I.fr
  refine PySem.W.notIn_K hF I.ok.mod.kin J hs hf (wpAny_mono (wpAny_call (run_fnR (us := [.ref a, v]) (vs := [.ref a, x]) F hr hx I (.cons rfl (.cons rx .nil)) q)) (fun w s' z => ?_) fun _ _ x => x)
  obtain ⟨z', H', I', rz, b, eb, qz⟩ := z
  subst eb
  cases (show w = Value.bool b from rz)
  exact truthy_b ⟨.bl (!b), H', I', rfl, qz⟩
/-- o[i] -/
def tSubO (C : Addr) (sp : Sp) (E : XK) (ta ti : TE) : TE := fun σ H Q => ta σ H fun x H1 => ti σ H1 fun y H2 => ∃ a dx fs, x = .ref a ∧ H2 a = some (.ins C dx fs) ∧ sp [.ref a, y] H2 Q E
theorem pe_subO {o i : Expr} {to ti : TE} {pos : Pos} (ho : PE X o to) (hi : PE X i ti) (hs : PySem.W.findIn X.K (.ref C) "__getitem__" = some (some (.ref g))) (hf : PySem.W.isFn X.K (.ref g) = true) (hfi : PySem.W.fnIn X.K g = true) (F : FnR X.prog X.w X.K X.mg X.base CX n g sp) (hr : Room (n + 1) X.A) (hx : Passes CX X E)
    (hsl : ∀ ov iv, subscripted i true ov iv = runValue (.builtin "lifetime.subscript" ⟨[ov, iv], []⟩) := by intro _ _; with_unfolding_all rfl) : PE X (.Subscript o i pos) (tSubO C sp E to ti) := by
  refine ⟨fun pins s σ H Q I h => ?_⟩
  refine Subscript_ (thn (ho.run pins s σ H _ I h) fun ov s1 ⟨x, H1, I1, rx, q1⟩ => thn (hi.run pins s1 σ H1 _ I1 q1) fun iv s2 ⟨y, H2, I2, ry, a, dx, fs, ex, ea, q2⟩ => ?_)
  subst ex
  cases (show ov = Value.ref a from rx)
  obtain ⟨ox, od, J⟩ := inst_at I2 ea
  obtain ⟨m, hF⟩ := I2.fr
  refine PySem.W.sub_K hF I2.ok.mod.kin J hs hfi hf ?_ (hsl _ _)
  exact wpAny_call (SlX.run_at (us := [.ref a, iv]) (ws := [.ref a, y]) F hr.in1 I2.env0.in1 hx I2 (.cons rfl (.cons ry .nil)) q2)
/-- len(o) -/
def rLenO (C : Addr) (sp : Sp) (E : XK) : List V → Hp → VK → Prop := fun xs H Q => ∃ a dx fs, xs = [.ref a] ∧ H a = some (.ins C dx fs) ∧ sp [.ref a] H (fun z H' => ∃ i : Int, z = .int i ∧ 0 ≤ i ∧ i < 2 ^ 63 ∧ Q (.int i) H') E
theorem call_lenO (hs : PySem.W.findIn X.K (.ref C) "__len__" = some (some (.ref g))) (hf : PySem.W.isFn X.K (.ref g) = true) (F : FnR X.prog X.w X.K X.mg X.base CX n g sp) (hr : Room (n + 1) X.A) (hx : Passes CX X E) : CallR X (.builtin "len") (rLenO C sp E) := by
  intro pins s σ H xs us Q I r h
  obtain ⟨a, dx, fs, rfl, ha, q⟩ := h
  obtain ⟨u, rfl, ru⟩ := r.one
  cases (show u = Value.ref a from ru)
  obtain ⟨ox, od, J⟩ := inst_at I ha
  obtain ⟨m, hF⟩ := I.fr
  refine PySem.W.len_K hF I.ok.mod.kin J hs hf (wpAny_mono (wpAny_call (SlX.run_at (us := [.ref a]) (ws := [.ref a]) F hr.in1 I.env0.in1 hx I (.cons rfl .nil) q)) (fun w s' z => ?_) fun _ _ x => x)
  obtain ⟨z', H', I', rz, i, ei, h0, h1, qz⟩ := z
  subst ei
  obtain ⟨t, e⟩ := (show ∃ t, w = Value.int i t from rz)
  subst e
  exact ⟨⟨h0, h1⟩, .int i, H', I'.tok _, ⟨_, rfl⟩, qz⟩
end
section
variable {X : Cx} {CX : CXT} {pins : List (Addr × Obj)} {σ : L2.St} {H : Hp} {s : Shared} {a C dx g : Addr} {fs : List (Str × V)} {n : Nat} {sp : Sp} {E : XK}
/-- str(o) -/
def rStrO (C : Addr) (sp : Sp) (E : XK) : List V → Hp → VK → Prop := fun xs H Q => ∃ a dx fs, xs = [.ref a] ∧ H a = some (.ins C dx fs) ∧ sp [.ref a] H (fun z H' => ∃ i : Str, z = .str i ∧ Q (.str i) H') E
theorem call_strO (hs : PySem.W.findIn X.K (.ref C) "__str__" = some (some (.ref g))) (hf : PySem.W.isFn X.K (.ref g) = true) (F : FnR X.prog X.w X.K X.mg X.base CX n g sp) (hr : Room (n + 2) X.A) (hx : Passes CX X E) : CallR X (.type "str") (rStrO C sp E) := by
  intro pins s σ H xs us Q I r h
  obtain ⟨a, dx, fs, rfl, ha, q⟩ := h
  obtain ⟨u, rfl, ru⟩ := r.one
  cases (show u = Value.ref a from ru)
  obtain ⟨ox, od, J⟩ := inst_at I ha
  have hr2 : Room n X.A.in1.in1 := (show Room (n + 1) X.A.in1 from Room.in1 hr).in1
  refine PySem.W.kso_call hr2.units0 I.kIn J hs hf (wpAny_mono (wpAny_call (SlX.run_at (us := [.ref a]) (ws := [.ref a]) F hr2 I.env0.in1.in1 hx I (.cons rfl .nil) q)) (fun w s' z => ?_) fun _ _ x => x)
  obtain ⟨z', H', I', rz, i, ei, qz⟩ := z
  subst ei
  obtain ⟨t, e⟩ := (show ∃ t, w = Value.str i t from rz)
  subst e
  exact ⟨.str i, H', I', ⟨_, rfl⟩, qz⟩
end
theorem ifBound_ne {M : Model} {A : Around} {E : Value → Shared → Prop} {s : Shared} {K : PySem.W.Frag} {x C : Addr} {ox : Obj} {od : Option Obj} {args : List Value} {Q : Option Value → Shared → Prop} (X : K.In s.heap) (I : PySem.W.InstAt s.heap x ox C od) (hs : PySem.W.findIn K (.ref C) "__ne__" = some (some (.builtin "object.__ne__")))
    (h : wpAny M A (call (.builtin "object.__ne__") (.ref x :: args)) (fun v => Q (some v)) E s) : wpAny M A (callSpecialIfBound? (.ref x) "__ne__" args) Q E s := by
  simp only [callSpecialIfBound?, bindSpecialIfBound?]
  refine wpAny_holding (wpAny_bind (wpAny_bind (wpAny_bind (I.type.here ((PySem.W.looks_findIn X hs).here ?_)))))
  refine wpAny_bind (wpAny_askSetting (wpAny_ite ?_))
  have fin : wpAny M A (call (.builtin "object.__ne__") ([.ref x] ++ args) >>= fun v => pure (some v)) Q E s := wpAny_bind (wpAny_mono h (fun v s' h' => wpAny_pure h') fun _ _ h' => h')
  split
  · exact wpAny_bind (wpAny_of_eq (F.cmp_object.ne.bind _) (wpAny_pure (by exact fin)))
  · exact wpAny_tryCatch (wpAny_bind (wpAny_of_eq (F.cmp_object.ne.bind _) (wpAny_pure (by exact fin))))
open Builtin in
theorem ne_entry {prog : Program} {w : World} {A : Around} {E : Value → Shared → Prop} {s : Shared} {K : PySem.W.Frag} {x C f : Addr} {b : Value} {ox : Obj} {od : Option Obj} {Q : Fin → Shared → Prop} (hu : A.units < cLine) (X : K.In s.heap) (I : PySem.W.InstAt s.heap x ox C od)
    (hs : PySem.W.findIn K (.ref C) "__eq__" = some (some (.ref f))) (hf : PySem.W.isFn K (.ref f) = true) (hcall : wpAny (model prog w) A (call (.ref f) [.ref x, b]) (fun v s' => ∃ b, v = .bool b ∧ Q (.done (.ret (.bool (!b)))) s') E s) :
    wpAny (model prog w) A (Builtin.«object.__ne__» ⟨[.ref x, b], []⟩) Q E s := by
  unfold Builtin.«object.__ne__»
  refine wpAny_bind (m := slotArgs "__ne__" 1 _) (wpAny_pure ?_)
  refine wpAny_bind (m := cRoomFor _ _) (wpAny_cRoomFor hu ?_)
  refine wpAny_bind (m := callSpecialIfBound? (.ref x) (Str.ofString "__eq__") [b]) (PySem.W.ifBound_K X I hs hf (wpAny_mono hcall (fun r s' hr => ?_) fun _ _ e => e))
  obtain ⟨c, rfl, hq⟩ := hr
  refine wpAny_bind (m := truthy (.bool _)) (wpAny_truthy_bool ?_)
  exact wpAny_pure hq
theorem cmp_ne {prog : Program} {w : World} {A : Around} {E : Value → Shared → Prop} {s : Shared} {K : PySem.W.Frag} {x C f : Addr} {b tb : Value} {ox : Obj} {od : Option Obj} {Q : Value → Shared → Prop} (hu : A.units < cLine) (hu1 : A.in1.units < cLine) (X : K.In s.heap) (I : PySem.W.InstAt s.heap x ox C od)
    (hb : PySem.W.Looks (model prog w) s.heap (typeOf b) tb) (hn : PySem.W.notFirst K C tb = true) (hm : PySem.W.mroIn K C (.type "object") = some true) (hne : PySem.W.findIn K (.ref C) "__ne__" = some (some (.builtin "object.__ne__")))
    (hs : PySem.W.findIn K (.ref C) "__eq__" = some (some (.ref f))) (hf : PySem.W.isFn K (.ref f) = true) (h : wpAny (model prog w) A.in1 (call (.ref f) [.ref x, b]) (fun v s' => ∃ b, v = .bool b ∧ Q (.bool (!b)) s') E s) :
    wpAny (model prog w) A (richCompare .NotEq (.ref x) b) Q E s := by
  have one : wpAny (model prog w) A (tryCompare (.ref x) "__ne__" b) (fun r s' => ∃ v, r = some v ∧ Q v s') E s := by
    unfold tryCompare
    refine wpAny_bind (ifBound_ne X I hne (wpAny_call (codeAny_call_builtin F.cmp_object.ne.plain F.cmpEntry_ne (PySem.W.check_slot F.cmpKind_ne F.cmpSplit_ne (I.type.andThen (PySem.W.looks_mroIn X hm)) (F.cmpArgs_ne _ _) (ne_entry hu1 X I hs hf (wpAny_mono h (fun v s' hv => ?_) fun _ _ e => e))))))
    obtain ⟨c, rfl, hq⟩ := hv
    exact ⟨c, rfl, wpAny_pure ⟨_, rfl, hq⟩⟩
  unfold richCompare
  simp only [oneThing_ref, cmpInfo_NotEq]
  refine wpAny_holding (wpAny_bind (wpAny_cRoomFor hu ?_))
  refine wpAny_bind (I.type.here (wpAny_bind (hb.here ?_)))
  split
  · rename_i q
    have e : PySem.W.subIn K tb (.ref C) = some false := by
      rcases Bool.or_eq_true_iff.mp hn with e | e
      · rw [beq_iff_eq.mp e] at q; simp at q
      · exact beq_iff_eq.mp e
    refine wpAny_bind ((PySem.W.looks_subIn X e).here ?_)
    simp only [Bool.false_eq_true, if_false]
    refine wpAny_bind (wpAny_mono one (fun r s' z => ?_) fun _ _ e => e)
    obtain ⟨v, rfl, hq⟩ := z
    exact wpAny_pure hq
  · refine wpAny_bind (wpAny_pure ?_)
    simp only [Bool.false_eq_true, if_false]
    refine wpAny_bind (wpAny_mono one (fun r s' z => ?_) fun _ _ e => e)
    obtain ⟨v, rfl, hq⟩ := z
    exact wpAny_pure hq
section
variable {X : Cx} {CX : CXT} {pins : List (Addr × Obj)} {σ : L2.St} {H : Hp} {s : Shared} {a C dx g : Addr} {fs : List (Str × V)} {n : Nat} {sp : Sp} {E : XK}
/-- what a value's type is, for == -/
def TyE (H : Hp) : V → Value → Prop
  | .non, t => t = .type "NoneType"
  | .ref b, t => (∃ D dx fs, H b = some (.ins D dx fs) ∧ t = .ref D) ∨ (∃ kvs, Rd H b (.dK kvs) ∧ t = .type "dict")
  | _, _ => False
theorem tyE_looks {t : Value} {y : V} {u : Value} (I : Inv X pins σ H s) (r : RelV y u) (h : TyE H y t) : PySem.W.Looks (model X.prog X.w) s.heap (typeOf u) t := by
  cases y with
  | non =>
    cases (show u = Value.none from r)
    cases h
    exact PySem.W.Looks.of_pure rfl
  | ref b =>
    cases (show u = Value.ref b from r)
    rcases h with ⟨D, dx, fs, e, rfl⟩ | ⟨kvs, e, rfl⟩
    · obtain ⟨ox, od, J⟩ := inst_at I e
      exact J.type
    · obtain ⟨_, _, vs, _, d⟩ := dk_rd I.hok e
      obtain ⟨o, ho, hc⟩ : s.TypeIs (.ref b) "dict" := d.typeIs
      exact fun A Q E s' k q => wpAny_typeOf (T := "dict") ⟨o, k _ _ ho, hc⟩ q
  | bl _ => exact h.elim
  | int _ => exact h.elim
  | str _ => exact h.elim
  | byt _ => exact h.elim
  | flt _ => exact h.elim
  | ty _ => exact h.elim
def rEqO (K : PySem.W.Frag) (C : Addr) (sp : Sp) (E : XK) : R2 := fun x y H Q => ∃ a dx fs t, x = .ref a ∧ H a = some (.ins C dx fs) ∧ TyE H y t ∧ PySem.W.notFirst K C t = true ∧ sp [.ref a, y] H Q E
theorem op_eqO (hs : PySem.W.findIn X.K (.ref C) "__eq__" = some (some (.ref g))) (hf : PySem.W.isFn X.K (.ref g) = true) (F : FnR X.prog X.w X.K X.mg X.base CX n g sp) (hr : Room n X.A) (hx : Passes CX X E) : OpR X (compareOp .Eq) (rEqO X.K C sp E) := by
  intro pins s σ H x y v u Q I rx ry h
  obtain ⟨a, dx, fs, t, rfl, ha, ht, hn, q⟩ := h
  cases (show v = Value.ref a from rx)
  obtain ⟨ox, od, J⟩ := inst_at I ha
  obtain ⟨m, hF⟩ := I.fr
  show wpAny _ _ (richCompare .Eq _ _) _ _ _
  refine PySem.W.cmp_K (op := .Eq) (tb := t) hr.units0 hF I.ok.mod.kin J (tyE_looks I ry ht) hn hs hf ?_
  refine wpAny_mono (wpAny_call (run_fnR (us := [.ref a, u]) (vs := [.ref a, y]) F hr hx I (.cons rfl (.cons ry .nil)) q)) (fun w s' z => ?_) fun _ _ x => x
  obtain ⟨z', H', I', rz, qz⟩ := z
  exact SlX.cmpback rz ⟨z', H', I', rz, qz⟩
def rNeO (K : PySem.W.Frag) (C : Addr) (sp : Sp) (E : XK) : R2 := fun x y H Q => ∃ a dx fs t, x = .ref a ∧ H a = some (.ins C dx fs) ∧ TyE H y t ∧ PySem.W.notFirst K C t = true ∧ sp [.ref a, y] H (fun z H' => ∃ b, z = .bl b ∧ Q (.bl (!b)) H') E
theorem op_neO (hs : PySem.W.findIn X.K (.ref C) "__eq__" = some (some (.ref g))) (hf : PySem.W.isFn X.K (.ref g) = true) (hne : PySem.W.findIn X.K (.ref C) "__ne__" = some (some (.builtin "object.__ne__"))) (hm : PySem.W.mroIn X.K C (.type "object") = some true) (F : FnR X.prog X.w X.K X.mg X.base CX n g sp) (hr : Room (n + 1) X.A) (hx : Passes CX X E) : OpR X (compareOp .NotEq) (rNeO X.K C sp E) := by
  intro pins s σ H x y v u Q I rx ry h
  obtain ⟨a, dx, fs, t, rfl, ha, ht, hn, q⟩ := h
  cases (show v = Value.ref a from rx)
  obtain ⟨ox, od, J⟩ := inst_at I ha
  show wpAny _ _ (richCompare .NotEq _ _) _ _ _
  refine cmp_ne (tb := t) hr.units0 hr.in1.units0 I.kIn J (tyE_looks I ry ht) hn hm hne hs hf ?_
  refine wpAny_mono (wpAny_call (SlX.run_at (us := [.ref a, u]) (ws := [.ref a, y]) F hr.in1 I.env0.in1 hx I (.cons rfl (.cons ry .nil)) q)) (fun w s' z => ?_) fun _ _ x => x
  obtain ⟨z', H', I', rz, b, eb, qz⟩ := z
  subst eb
  cases (show w = Value.bool b from rz)
  exact ⟨b, rfl, .bl (!b), H', I', rfl, qz⟩

/-! ### properties -/
theorem getpropR {f : Str} {p : Addr} {Q : VK} {b : Bool} {E' : Value → Shared → Prop} (I : Inv X pins σ H s) (ea : H a = some (.ins C dx fs)) (c : Cls X.K C) (hp : PropOf X.K C f p g)
    (F : FnR X.prog X.w X.K X.mg X.base CX n g sp) (hr : Room (n + 1) X.A) (hx : Passes CX X.nox E) (h : sp [.ref a] H Q E) :
    wpAny (model X.prog X.w) X.A (getAttr (.ref a) f b) (EP X pins σ Q) E' s := by
  obtain ⟨mA, O, _, _, _, _⟩ := ins_get I.hok ea
  obtain ⟨od, J, _⟩ := O.look
  obtain ⟨rest, hrec⟩ := hp.rec_
  have I1 := I.tok (s.toks + 1)
  have hc : (PySem.W.clsIn X.K C).isSome = true := by
    obtain ⟨cd, hc, _⟩ := PySem.W.any_some c.hd
    rw [hc]
    rfl
  refine PySem.W.get_bind I.kIn J (PySem.W.plainGet_of (c.get f)).1 (PySem.W.findObj_data hc hp.at_ hp.get hp.tak) (PySem.W.plainGet_of (c.get f)).2 (wpAny_call (PySem.W.prop_get (s := { s with toks := s.toks + 1 }) I.kIn hrec ?_))
  refine codeAny_mono (F X.A.in1 X.stack { s with toks := s.toks + 1 } H [.ref a] [.ref a] Q E hr.in1 I1.env0.in1 (.cons rfl .nil) h) fun r s' hq => ?_
  cases r with
  | error er => exact False.elim (hx pins σ H { s with toks := s.toks + 1 } er s' (I1.wish _) hq)
  | ok fl =>
    cases fl with
    | ret u =>
      obtain ⟨v, H', I3, rv, q3⟩ := I1.after hq
      show wpAny _ _ (handedOut u) _ _ _
      rw [PySem.W.handedOut_of (handed_of rv)]
      exact wpAny_pure ⟨v, H', I3, rv, q3⟩
    | next => exact False.elim hq
    | brk => exact False.elim hq
    | cont => exact False.elim hq
def tPrR (C : Addr) (sp : Sp) (E : XK) (ta : TE) : TE := fun σ H Q => ta σ H fun x H1 => ∃ a dx fs, x = .ref a ∧ H1 a = some (.ins C dx fs) ∧ sp [.ref a] H1 Q E
theorem pe_prR {e : Expr} {f : Str} {p : Addr} {pos : Pos} {ta : TE} (he : PE X e ta) (c : Cls X.K C) (hp : PropOf X.K C f p g) (F : FnR X.prog X.w X.K X.mg X.base CX n g sp) (hr : Room (n + 1) X.A) (hx : Passes CX X.nox E)
    (hab : attributeBase e f X.env (eval e X.env) = eval e X.env := by rfl) : PE X (.Attribute e f pos) (tPrR C sp E ta) := by
  refine ⟨fun pins s σ H Q I h => ?_⟩
  refine attr_of hab (thn (he.run pins s σ H _ I h) fun u s1 ⟨x, H1, I1, rx, a, dx, fs, ex, ea, q⟩ => ?_)
  subst ex
  cases (show u = Value.ref a from rx)
  exact getpropR I1 ea c hp F hr hx q
/-- o.m() -/
theorem pe_meth0R {m : Str} {o : Expr} {ta : TE} {apos pos : Pos} {pl : Sem Bool} (he : PE X o ta) (c : Cls X.K C) (hm : Meth X.K C m g) (F : FnR X.prog X.w X.K X.mg X.base CX n g sp) (hr : Room n X.A) (hx : Passes CX X E)
    (ht : eval (.Call (.Attribute o m apos) [] [] pos) X.env = (do
      let ov ← eval o X.env
      standAt apos.atName
      let (f, first) ← holding [ov] (getMethod ov m pl)
      callWith pos f first (backTo pos (starEach [] X.env)) (backToKw pos (keywordEach [] X.env))) := by rfl) :
    PE X (.Call (.Attribute o m apos) [] [] pos) (tMethR C m sp E ta tNil) := by
  refine ⟨fun pins s σ H Q I h => ?_⟩
  refine PySem.W.methodCall_KW (pl := pl) (thn (he.run pins s σ H _ I h) fun u s1 ⟨x, H1, I1, rx, a, dx, fs, ex, ea, l, q⟩ => ?_) ht
  subst ex
  cases (show u = Value.ref a from rx)
  refine getmeth_ok I1 ea c hm l ?_
  exact PySem.W.callWith_K0 (first := [.ref a]) I1.kIn hm.kp (wpAny_call (run_fnR (us := [.ref a]) (vs := [.ref a]) F hr hx I1 (.cons rfl .nil) q))
end
end K62
set_option maxHeartbeats 4000000
/-! K62Rul2: constants, powers, enumerate of a text, list of a dict's values, a dict's copy, update, repr. -/
namespace K62
open PySem PySem.Spec PyProof.Rows L2
section
variable {X : Cx} {x : Str} {pos : Pos}
theorem pe_gint {n : Int} (h : ∃ t, X.mg x = some (.int n t)) (hg : Gl X x := by rfl) (hd : (x == ("__debug__" : Str)) = false := by decide) : PE X (.Name x pos) (tC (.int n)) := by
  obtain ⟨t, h⟩ := h
  exact pe_glob hg h ⟨_, rfl⟩ hd
theorem pe_gstr {z : Str} (h : ∃ t, X.mg x = some (.str z t)) (hg : Gl X x := by rfl) (hd : (x == ("__debug__" : Str)) = false := by decide) : PE X (.Name x pos) (tC (.str z)) := by
  obtain ⟨t, h⟩ := h
  exact pe_glob hg h ⟨_, rfl⟩ hd
/-- small powers; 10 ** 60 to the tenth -/
def CPowB (i j : Int) : Prop := CPow i j ∨ i = 10 ^ 60 ∧ j = 10
theorem op_powB : OpR X (binaryOp .Pow) (L2.rI CPowB fun i j => .int (i ^ j.toNat)) := opI fun i j _ _ _ _ _ hc q => by
  rcases hc with hc | ⟨rfl, rfl⟩
  · exact pow_int_small hc.1 hc.2.1 hc.2.2 q
  · exact PyProof.Rows.pow_int (by decide) (by decide +kernel) q

/-! ### enumerate(text) -/
def ItS (z : Str) : It := ⟨fun i _ => i < z.cps.size, fun i H v H' => ∃ T c, v = .ref T ∧ H T = none ∧ z.cps[i]? = some c ∧ H' = upd H T (.tup [.int (i : Nat), .str ⟨#[c]⟩]), fun i _ => z.cps.size ≤ i⟩
theorem turn_enumS {P : Program} {w : World} {K : PySem.W.Frag} {elts : List Expr} {kk : Nat} {tpos : Pos} (e it : Addr) (z : Str) (t : Tok) (hne : e ≠ it) :
    Turn P w K (.Tuple elts kk tpos) (ItS z) [e, it] e (fun i h => (∃ old, IsEnum h e it ((i : Nat) : Int) old) ∧ h.IsStrIter it (strIterType z) z t i) where
  mem := by simp
  obj := fun i h st b hb => by
    obtain ⟨⟨old, he⟩, ⟨o, ho, hc, hd⟩⟩ := st
    have e' : b = e ∨ b = it := by simpa using hb
    rcases e' with q | q
    · rw [q]; exact ⟨_, he, fun v q => nomatch q⟩
    · rw [q]; exact ⟨o, ho, fun v q => by rw [hd] at q; cases q⟩
  keep := fun i h h' st k => let ⟨⟨old, he⟩, o, ho, r⟩ := st; ⟨⟨old, k e (by simp) _ he⟩, o, k it (by simp) o ho, r⟩
  item := by
    intro X hP hw hK hc i pins s σ H E I hf st hg
    subst hP hw hK
    obtain ⟨⟨old, he⟩, hit⟩ := st
    have hel : e < s.heap.objs.size := Heap.lt_size he
    have hil : it < s.heap.objs.size := by obtain ⟨_, q, _⟩ := hit; exact Heap.lt_size q
    have D : Draws X.prog X.w X.A.in1 it [it] z.cps.size (fun i v => ∃ c u, z.cps[i]? = some c ∧ v = .str ⟨#[c]⟩ u) (fun i h => h.IsStrIter it (strIterType z) z t i) := by
      unfold strIterType
      split
      · exact Draws.strAscii (A := X.A.in1) (I.ok.hd hc) it z t
      · exact Draws.strWide (A := X.A.in1) (I.ok.hd hc) it z t
    refine wpAny_pyNext_enum_itemD D he hit hg hne (by simpa using hne) fun v h' tk hv ho hit' hT hsz hk => ?_
    obtain ⟨c, u, hcx, rfl⟩ := hv
    refine ⟨_, rfl, wpAny_letOwnedTupleGo_enum (s := { s with heap := h', toks := tk + 1 }) ho fun h'' he' sb => ?_⟩
    have hT2 : h''.get? s.heap.objs.size = some { cls := .type "tuple", data := .seq #[.int i tk, .str ⟨#[c]⟩ u] } := (sb.2 _ (Nat.ne_of_gt hel)).trans hT
    have new : ObjOk X.prog X.w (upd H s.heap.objs.size (.tup [.int (i : Nat), .str ⟨#[c]⟩])) h'' s.heap.objs.size (.tup [.int (i : Nat), .str ⟨#[c]⟩]) :=
      ⟨by show 2 ≤ sizeLine; decide, [.int i tk, .str ⟨#[c]⟩ u], .cons ⟨_, rfl⟩ (.cons ⟨_, rfl⟩ .nil), ⟨_, hT2, rfl, _, rfl⟩⟩
    have I1 : Inv X pins σ (upd H s.heap.objs.size (.tup [.int (i : Nat), .str ⟨#[c]⟩])) { s with heap := h'', toks := tk + 1 } :=
      I.turnedNew (ch := [e, it]) (fun b ob hb q => (sb.2 b (fun z => hb (by simp [z]))).trans (hk b ob (fun z => hb (by simp [z])) (fun z => hb (by simp [z])) q)) hf (Nat.le_refl _) new
    refine ⟨.ref s.heap.objs.size, _, I1, rfl, ⟨_, c, rfl, I.hok.fresh (Nat.le_refl _), hcx, rfl⟩, ⟨⟨.str ⟨#[c]⟩ u, ?_⟩, ?_⟩, fun b hb => ?_⟩
    · have e1 : ((i + 1 : Nat) : Int) = (i : Int) + 1 := by omega
      rw [e1]; exact he'
    · obtain ⟨o, ho2, r⟩ := hit'
      exact ⟨o, (sb.2 it (Ne.symm hne)).trans ho2, r⟩
    · have hb' : b < s.heap.objs.size := by
        have e' : b = e ∨ b = it := by simpa using hb
        rcases e' with z | z
        · rw [z]; exact hel
        · rw [z]; exact hil
      rw [upd_ne (Nat.ne_of_lt hb')]
      exact (hf b hb).1
  done := by
    intro X hP hw hK hc i pins s σ H E I hf st hg
    subst hP hw hK
    obtain ⟨⟨old, he⟩, hit⟩ := st
    obtain ⟨f0, f1, f2, f3, f4, f5⟩ := hf it (by simp)
    have hx : z.cps[i]? = none := Array.getElem?_eq_none hg
    have D : ∀ (s : Shared) (Q : Value → Shared → Prop) (E : Value → Shared → Prop), s.heap.IsStrIter it (strIterType z) z t i →
        (∀ h' e, Heap.ExtBut it s.heap h' → (∃ o, h'.get? e = some o ∧ o.cls = .type "StopIteration") → E (.ref e) { s with heap := h' }) → wpAny (model X.prog X.w) X.A.in1 (Builtin.SmallTypes.nextOf (.ref it)) Q E s := by
      intro s Q E st hE
      unfold strIterType at st
      split at st
      · exact wpAny_nextOf_ascii_end (I.ok.hd hc) st hx hE
      · exact wpAny_nextOf_wide_end (I.ok.hd hc) st hx hE
    have D' : Draws X.prog X.w X.A.in1 it [it] i (fun _ _ => True) (fun j h => if j = i then h.IsStrIter it (strIterType z) z t i else False) := ⟨fun j h st => by
      split at st
      · obtain ⟨o, ho, _⟩ := st; exact ⟨o, ho⟩
      · exact st.elim, fun j h h' st k => by
      split at st
      · rename_i e; rw [if_pos e]; obtain ⟨o, ho, r⟩ := st; exact ⟨o, k it (by simp) o ho, r⟩
      · exact st.elim, fun j s Q E hj st _ => by rw [if_neg (Nat.ne_of_lt hj)] at st; exact st.elim, fun s Q E st hE => by rw [if_pos rfl] at st; exact D s Q E st hE⟩
    exact wpAny_pyNext_enum_endD D' he (by rw [if_pos rfl]; exact hit) fun h' eb => ⟨rfl, I.turned (t' := s.toks) (fun b o hb q => eb b o hb q) f0 f1 f3 f4 f5⟩
  self := fun A i s Q E st h => let ⟨⟨_, he⟩, _⟩ := st; wpAny_pyIter_enum he h
def iEnumS (te : TE) : TI := fun σ H R => te σ H fun v H1 => ∃ z, v = .str z ∧ R (ItS z) H1
theorem pi_enumS {e : Expr} {te : TE} {p tpos : Pos} {elts : List Expr} {kk : Nat} (hg : Gl X "enumerate") (hm : X.mg "enumerate" = none) (ha : PE X e te) (na : starEach [e] X.env = (false, eval e X.env) :: starEach [] X.env := by rfl) :
    PI X (.Tuple elts kk tpos) (.Call (.Name "enumerate" p) [e] [] pos) (iEnumS te) := by
  refine ⟨fun pins s σ H R I h => ?_⟩
  refine Call_ (ld_blt I hg hm boot_enumerate (PyProof.Rows.callWith_type1 (one_arg ha I h (fun v s1 x H1 I1 r q1 => ?_) na) na))
  obtain ⟨z, ex, q⟩ := q1
  subst ex
  obtain ⟨t, rfl⟩ := r
  refine call_enumerate_str fun h' he hit hsz hk => wpAny_pyIter_enum he ?_
  have I2 : Inv X pins σ H1 { s1 with heap := h' } := I1.kept (t' := s1.toks) hk
  refine ⟨s1.heap.objs.size + 1, [s1.heap.objs.size + 1, s1.heap.objs.size], _, _, H1, rfl, I2, turn_enumS (s1.heap.objs.size + 1) s1.heap.objs.size z t (Nat.succ_ne_self _), ⟨⟨.none, he⟩, hit⟩, fun b hb => ?_, q⟩
  have e' : b = s1.heap.objs.size + 1 ∨ b = s1.heap.objs.size := by simpa using hb
  have hle : s1.heap.objs.size ≤ b := by
    rcases e' with z | z
    · rw [z]; exact Nat.le_add_right _ _
    · rw [z]; exact Nat.le_refl _
  exact I1.fpOk hle (I1.hok.fresh hle)
/-! ### list(d.values()) -/
def tListVals (te : TE) : TE := fun σ H Q => te σ H fun x H1 => ∃ d kvs, x = .ref d ∧ H1 d = some (.dK kvs) ∧ ∀ p, H1 p = none → Q (.ref p) (upd H1 p (.lst (kvs.map (·.2))))
theorem pe_listVals {e : Expr} {te : TE} {p apos cpos : Pos} (hc : X.calm = true) (he : PE X e te) (hg : Gl X "list") (hm : X.mg "list" = none) (hv : bootBuiltins "list" = some (.type "list")) (hbase : attributeBase e "values" X.env (eval e X.env) = eval e X.env := by rfl) (hline : (apos.endLine == cpos.line) = true := by rfl)
    (hs : starEach [.Call (.Attribute e "values" apos) [] [] cpos] X.env = (false, eval (.Call (.Attribute e "values" apos) [] [] cpos) X.env) :: starEach [] X.env := by rfl) :
    PE X (.Call (.Name "list" p) [.Call (.Attribute e "values" apos) [] [] cpos] [] pos) (tListVals te) := by
  refine ⟨fun pins s σ H Q I hq => ?_⟩
  refine wpAny_Call_Name_kw (ld_blt I hg hm hv ?_)
  refine PyProof.Rows.callWith_type1 ?_ hs rfl
  rw [hs]
  show wpAny _ _ (spliced ((false, eval (.Call (.Attribute e "values" apos) [] [] cpos) X.env) :: backTo pos (starEach [] X.env))) _ _ s
  refine Calls.spliced_cons ?_
  refine wpAny_Call_method (T := "dict") (id := "dict.values") hbase rfl hline F.plainAttrs_dict F.slot_dict_values F.type_dict_values (thn (he.run pins s σ H _ I hq) fun u s1 ⟨x, H1, I1, rx, d, kvs, ex, hd, q⟩ => ?_)
  subst ex
  obtain rfl : u = Value.ref d := rx
  obtain ⟨hz, hs0, vs, kv, hdo⟩ := I1.hok d _ hd
  obtain ⟨ep, hat⟩ := hdo.dictAt
  have lk : kvs.length = vs.length := Paired.length kv
  have I2 : Inv X pins σ H1 { s1 with heap := s1.heap.push { cls := .type "dict_values", data := .fields #[.ref d] } } := I1.kept (t' := s1.toks) fun b ob q => Heap.get?_push_of_some _ q
  refine ⟨hdo.typeIs, hdo.mapOf.noDict, ?_⟩
  show wpAny _ _ (callWith cpos (.builtin "dict.values") [.ref d] [] []) _ X.xe s1
  refine method_meetsIn F.slot_dict_values F.entry_dict_values rfl (PySem.evalArgs_none ⟨rfl, hdo.typeIs, F.args_dict_values_1 _, _, meets_dict_values (mixKind X.prog X.w) d hs0, ⟨vs, hdo⟩, ?_⟩)
  refine Calls.spliced_nil ?_
  refine PySem.W.kdl_call (PySem.W.kdl_values (knd := mixKind X.prog X.w) (kvs := vs) (ep := ep)) (I1.ok.hd hc) ⟨⟨_, Heap.get?_push_size _ rfl, rfl, rfl⟩, hat.push _⟩ (by omega) fun h' tk acc c hk hS hacc => ?_
  have el : acc.toList.length = acc.size := by simp
  refine ⟨.ref _, _, I2.laid hk (Nat.le_refl _) (show ObjOk X.prog X.w _ _ _ (.lst (kvs.map (·.2))) from ⟨by rw [List.length_map]; exact hz, acc.toList, c, ?_, ?_⟩), rfl, q _ (I2.hok.fresh (Nat.le_refl _))⟩
  · refine vals_of_at (by rw [List.length_map, el, hacc.1, lk]) fun j x w h1 h2 => ?_
    obtain ⟨k, hky⟩ := hacc.2 j w (by rw [← Array.getElem?_toList]; exact h2)
    rw [List.getElem?_map] at h1
    cases hj : kvs[j]? with
    | none => rw [hj] at h1; cases h1
    | some p =>
      rw [hj] at h1
      cases h1
      obtain ⟨u, hu, ru⟩ := kv_get kv (i := j) (k := p.1) (v := p.2) hj
      rw [hky] at hu
      cases hu
      exact ru
  · rw [Array.toArray_toList]
    exact hS
/-! ### dict(d), d.update(e) -/
def rDictC : List V → Hp → VK → Prop := fun xs H Q => ∃ d kvs, xs = [.ref d] ∧ Rd H d (.dK kvs) ∧ ∀ p, H p = none → Q (.ref p) (upd H p (.dK kvs))
theorem call_dictC : CallR X (.type "dict") rDictC := by
  intro pins s σ H xs us Q I r h
  obtain ⟨d, kvs, rfl, hd, q⟩ := h
  obtain ⟨u, rfl, ru⟩ := r.one
  cases (show u = Value.ref d from ru)
  exact d_copyOf I hd fun p s' hp I' => ⟨.ref p, _, I', rfl, q p hp⟩
def rDUpd : V → List V → Hp → VK → Prop := fun x xs H Q => ∃ a b kvs more, x = V.ref a ∧ xs = [V.ref b] ∧ H a = some (.dK kvs) ∧ Rd H b (.dK more) ∧ a ≠ b ∧ kvs.length + more.length ≤ sizeLine ∧ Q .non (upd H a (.dK (mergeK kvs more)))
theorem mt_dupd : MtR X "dict.update" rDUpd := by
  intro pins s σ H x xs v us Q I rx rxs h
  obtain ⟨a, b, kvs, more, rfl, rfl, ha, hb, hab, hl, q⟩ := h
  cases (show v = Value.ref a from rx)
  obtain ⟨u, rfl, ru⟩ := rxs.one
  cases (show u = Value.ref b from ru)
  obtain ⟨z, hd, vs, rel, dd⟩ := dk_of I.hok ha
  obtain ⟨z2, hd2, vs2, rel2, dd2⟩ := dk_rd I.hok hb
  refine call_meetsIn PySem.F.slot_dict_update dd.typeIs PySem.F.entry_dict_update (PySem.F.args_dict_update_2 _ _) (meets_dict_update (mixKind X.prog X.w) a b hab hd2) ⟨vs, vs2, dd, dd2, by rw [← rel.length, ← rel2.length]; exact hl, fun h' dd' _ hs => ?_⟩
  have he : ∃ q, h'.get? a = some q := let ⟨q, _, _, hq, _⟩ := dd'; ⟨q, hq⟩
  exact ⟨.non, _, d_write (t' := s.toks) I (by rw [ha]; exact True.intro) hs he (dk_new (Nat.le_trans (length_mergeK _ _) hl) hd (rel2.merge rel) dd'), rfl, q⟩
/-! ### repr -/
def rRepr (K : PySem.W.Frag) : List V → Hp → VK → Prop := fun xs H Q => ∃ x d, xs = [x] ∧ Dp K H x d ∧ d.showable = true ∧ d.hasDict = false ∧ d.depth ≤ 20 ∧ d.shown.length ≤ sizeLine ∧ Q (.str d.shown) H
theorem call_reprD (hu : X.A.units + 64 < cLine) (hg : X.A.guards = some []) : CallR X (.builtin "repr") (rRepr X.K) := by
  intro pins s σ H xs us Q I r h
  obtain ⟨x, d, rfl, hx, hs, hd, hdep, hl, q⟩ := h
  obtain ⟨u, rfl, ru⟩ := r.one
  obtain ⟨as, rr⟩ := Dp.reads I d x u hx ru
  have fin : ∀ h' u tk, (∀ b o, s.heap.get? b = some o → h'.get? b = some o) → EP X pins σ Q (.str d.shown u) { s with heap := h', toks := tk } := fun h' u tk k => ⟨.str d.shown, H, I.kept k, ⟨u, rfl⟩, q⟩
  cases hx with
  | lst _ _ =>
    cases (show u = Value.ref _ from ru)
    exact repr_of_reads' rr hs (fun z => by rw [hd] at z; cases z) hg (by omega) (fun _ _ z => z) fin hl
  | tup _ _ =>
    cases (show u = Value.ref _ from ru)
    exact repr_of_reads' rr hs (fun z => by rw [hd] at z; cases z) hg (by omega) (fun _ _ z => z) fin hl
  | non =>
    cases (show u = Value.none from ru)
    exact PySem.P.repr_of_none ⟨.str _, H, I.tok _, ⟨_, rfl⟩, q⟩
  | bl b =>
    cases (show u = Value.bool b from ru)
    exact PySem.P.repr_of_bool ⟨.str _, H, I.tok _, ⟨_, rfl⟩, by cases b <;> exact q⟩
  | int i =>
    obtain ⟨t, rfl⟩ := ru
    have hs : i.natAbs.log2 < 1920 := by simpa [PyData.showable] using hs
    exact PySem.P.repr_of_int hs ⟨.str _, H, I.tok _, ⟨_, rfl⟩, q⟩
  | str z =>
    obtain ⟨t, rfl⟩ := ru
    exact PySem.P.repr_of_str ⟨.str _, H, I.tok _, ⟨_, rfl⟩, q⟩ hl
end
end K62
set_option maxHeartbeats 4000000
/-! K62Mk: the promises of methods, classes, properties; the calls of these. -/
namespace K62
open PySem PySem.Spec PyProof.Rows L2
section
variable (P : Program) (w : World) (K : PySem.W.Frag) (mg : Str → Option Value) (base : Heap)
/-- a property -/
structure Pp (k : Nat) (C : Addr) (f : Str) (sp : Sp) : Prop where
  ex : ∃ p g, PropOf K C f p g ∧ FnR P w K mg base CX0 k g sp
/-- a special method, found by the class -/
structure Ow (k : Nat) (C : Addr) (nm : Str) (sp : Sp) : Prop where
  ex : ∃ g, PySem.W.findIn K (.ref C) nm = some (some (.ref g)) ∧ PySem.W.isFn K (.ref g) = true ∧ PySem.W.fnIn K g = true ∧ FnR P w K mg base CX0 k g sp
/-- the class x, made by its __init__ -/
structure Mkr (k : Nat) (x : Str) (C : Addr) (sp : Sp) : Prop where
  ex : mg x = some (.ref C) ∧ ∃ g, Mk K C g ∧ FnR P w K mg base CX0 k g sp
/-- .. by keywords: n values (self first), then those of the keywords ks -/
structure MkrK (k n : Nat) (x : Str) (C : Addr) (ks : List Str) (sp : Sp) : Prop where
  ex : mg x = some (.ref C) ∧ ∃ g fd ps, Mk K C g ∧ FnOk P w K mg base CX0 k g fd ps sp ∧ KBn K fd ps (n + 1) ks (fun us ws => us ++ ws) (fun vs zs => vs ++ zs)
/-- a method called by keywords -/
structure MtK (k : Nat) (C : Addr) (m : Str) (ks : List Str) (sp : Sp) : Prop where
  ex : ∃ g fd ps, Meth K C m g ∧ FnOk P w K mg base CX0 k g fd ps sp ∧ KBn K fd ps 1 ks (fun us ws => us ++ ws) (fun vs zs => vs ++ zs)
/-- a method handed its arguments by a star -/
structure MtS (k : Nat) (C : Addr) (m : Str) (g : Addr) (sp : Sp) : Prop where
  ex : BMeth K C m g ∧ FnR P w K mg base CX0 k g sp
/-- a classmethod -/
structure Cm (k : Nat) (x : Str) (C : Addr) (m : Str) (sp : Sp) : Prop where
  ex : mg x = some (.ref C) ∧ ∃ mc p g, ClX.CRead K C mc ∧ ClX.CMet K C mc m p g ∧ FnR P w K mg base CX0 k g sp
/-- a def that shows data: nothing is being shown meanwhile -/
def FnQ (k : Nat) (f : Addr) (sp : Sp) : Prop :=
  ∀ (A : Around) (outer : List Env) (s : Shared) (H : Hp) (us : List Value) (vs : List V) (Q : VK) (E : XK), A.guards = some [] → Room k A → Env0 P w K mg base A outer s H → Vals vs us → sp vs H Q E →
    codeAny (model P w) A (.call (.ref f) ⟨us, []⟩) (CR CX0 outer P w H s Q E) s
structure ClQ (k : Nat) (x : Str) (sp : Sp) : Prop where
  ex : ∃ f, mg x = some (.ref f) ∧ PySem.W.keepIn K (.ref f) = true ∧ FnQ P w K mg base k f sp
end
section
variable {X : Cx} {k j n : Nat} {C g : Addr} {sp : Sp} {m f x : Str} {o e fe : Expr} {es : List Expr} {kws : List Keyword} {ta tf tk te ti : TE} {t tkw : TA} {p pos apos sp_ : Pos} {pl : Sem Bool} {ks : List Str}
/-- o.m(e, ..) -/
theorem pe_mt (c : Cls X.K C) (M : Mt X.prog X.w X.K X.mg X.base k C m sp) (hr : Room j X.A) (hk : k ≤ j) (he : PE X o ta) (ha : PA X (e :: es) t)
    (hst : starEach (e :: es) X.env = (false, eval e X.env) :: starEach es X.env := by rfl) (hpl : (backTo pos (starEach es X.env)).any (·.1) = false := by rfl)
    (ht : eval (.Call (.Attribute o m apos) (e :: es) [] pos) X.env = (do
      let ov ← eval o X.env
      standAt apos.atName
      let (f, first) ← holding [ov] (getMethod ov m pl)
      callWith pos f first (backTo pos (starEach (e :: es) X.env)) (backToKw pos (keywordEach [] X.env))) := by rfl) :
    PE X (.Call (.Attribute o m apos) (e :: es) [] pos) (tMethR C m sp E0 ta t) := by
  obtain ⟨f, hm, F⟩ := M.ex
  exact pe_methR (pl := pl) he c hm F (hr.mono hk) pass0 ha hst hpl ht
theorem pe_mt0 (c : Cls X.K C) (M : Mt X.prog X.w X.K X.mg X.base k C m sp) (hr : Room j X.A) (hk : k ≤ j) (he : PE X o ta)
    (ht : eval (.Call (.Attribute o m apos) [] [] pos) X.env = (do
      let ov ← eval o X.env
      standAt apos.atName
      let (f, first) ← holding [ov] (getMethod ov m pl)
      callWith pos f first (backTo pos (starEach [] X.env)) (backToKw pos (keywordEach [] X.env))) := by rfl) :
    PE X (.Call (.Attribute o m apos) [] [] pos) (tMethR C m sp E0 ta tNil) := by
  obtain ⟨f, hm, F⟩ := M.ex
  exact pe_meth0R (pl := pl) he c hm F (hr.mono hk) pass0 ht
/-- o.m(k = v) -/
def tMethK (C : Addr) (m : Str) (n : Nat) (sp : Sp) (E : XK) (ta : TE) (t : TA) : TE := fun σ H Q => ta σ H fun x H1 => ∃ a dx fs, x = .ref a ∧ H1 a = some (.ins C dx fs) ∧ fs.lookup m = none ∧ t σ H1 fun zs H2 => zs.length = n ∧ sp (x :: zs) H2 Q E
theorem pe_mtK (c : Cls X.K C) (M : MtK X.prog X.w X.K X.mg X.base k C m ks sp) (hr : Room j X.A) (hk : k ≤ j) (he : PE X o ta) (ha : PK X kws tkw)
    (hall : (backToKw pos (keywordEach kws X.env)).all (·.1.isSome) = true := by rfl) (hks : (backToKw pos (keywordEach kws X.env)).filterMap (·.1) = ks := by rfl)
    (hpl : ((backTo pos (starEach [] X.env)).any (·.1) || (backToKw pos (keywordEach kws X.env)).any (·.1.isNone)) = false := by rfl)
    (ht : eval (.Call (.Attribute o m apos) [] kws pos) X.env = (do
      let ov ← eval o X.env
      standAt apos.atName
      let (f, first) ← holding [ov] (getMethod ov m pl)
      callWith pos f first (backTo pos (starEach [] X.env)) (backToKw pos (keywordEach kws X.env))) := by rfl) :
    PE X (.Call (.Attribute o m apos) [] kws pos) (tMethK C m ks.length sp E0 ta tkw) := by
  obtain ⟨f, fd, ps, hm, F, hb⟩ := M.ex
  refine ⟨fun pins s σ H Q I h => ?_⟩
  refine PySem.W.methodCall_KW (pl := pl) (thn (he.run pins s σ H _ I h) fun u s1 ⟨x, H1, I1, rx, a, dx, fs, ex, ea, l, q⟩ => ?_) ht
  subst ex
  cases (show u = Value.ref a from rx)
  refine getmeth_ok I1 ea c hm l ?_
  refine PySem.W.callWith_KW0 (first := [.ref a]) (h₀ := X.base) I.ok.mod.kin hm.kp hall ?_ hpl
  refine thn (ha.run pos pins s1 σ H1 _ I1 q) fun ws s2 ⟨zs, H2, I2, rz, l2, q2⟩ => ⟨I2.kIn, ?_⟩
  rw [hks]
  have l3 : ws.length = ks.length := rz.length.symm.trans l2
  refine wpAny_call (codeAny_mono (F.run X.A X.stack s2 H2 ⟨[.ref a], ks.zip ws⟩ ([.ref a] ++ ws) (.ref a :: zs) Q E0 (hr.mono hk) I2.env0 (hb.to s2 [.ref a] ws I2.kIn rfl l3) (show Vals (V.ref a :: zs) (Value.ref a :: ws) from .cons rfl rz) q2) fun r s' hq => ?_)
  cases r with
  | error e => exact pass0 pins σ H2 s2 e s' I2 hq
  | ok fl =>
    cases fl with
    | ret u => exact I2.after hq
    | next => exact False.elim hq
    | brk => exact False.elim hq
    | cont => exact False.elim hq
/-- o.m(*e) -/
theorem pe_mtS (c : Cls X.K C) (M : MtS X.prog X.w X.K X.mg X.base k C m g sp) (hr : Room j X.A) (hk : k ≤ j) (he : PE X o ta) (ha : PE X e te) (hbase : attributeBase o m X.env (eval o X.env) = eval o X.env := by rfl) :
    PE X (.Call (.Attribute o m apos) [.Starred e sp_] [] pos) (tMethS X.K C m g sp E0 ta te) := pe_methS he c M.ex.1 M.ex.2 (hr.mono hk) pass0 ha hbase
/-- o.f, a property -/
theorem pe_pp (c : Cls X.K C) (M : Pp X.prog X.w X.K X.mg X.base k C f sp) (hr : Room j X.A) (hk : k + 1 ≤ j) (he : PE X e ta) (hab : attributeBase e f X.env (eval e X.env) = eval e X.env := by rfl) : PE X (.Attribute e f pos) (tPrR C sp E0 ta) := by
  obtain ⟨p, g, hp, F⟩ := M.ex
  exact pe_prR he c hp F (hr.mono hk) pass0 hab
theorem op_in_ (M : Ow X.prog X.w X.K X.mg X.base k C "__contains__" sp) (hr : Room j X.A) (hk : k ≤ j) : OpR X (compareOp .In) (rInO C sp E0 false) := by
  obtain ⟨g, h1, h2, h3, F⟩ := M.ex
  exact op_inO h1 h2 F (hr.mono hk) pass0
theorem op_notIn_ (M : Ow X.prog X.w X.K X.mg X.base k C "__contains__" sp) (hr : Room j X.A) (hk : k ≤ j) : OpR X (compareOp .NotIn) (rInO C sp E0 true) := by
  obtain ⟨g, h1, h2, h3, F⟩ := M.ex
  exact op_notInO h1 h2 F (hr.mono hk) pass0
theorem pe_sub_ (M : Ow X.prog X.w X.K X.mg X.base k C "__getitem__" sp) (hr : Room j X.A) (hk : k + 1 ≤ j) (ho : PE X o ta) (hi : PE X e ti)
    (hsl : ∀ ov iv, subscripted e true ov iv = runValue (.builtin "lifetime.subscript" ⟨[ov, iv], []⟩) := by intro _ _; with_unfolding_all rfl) : PE X (.Subscript o e pos) (tSubO C sp E0 ta ti) := by
  obtain ⟨g, h1, h2, h3, F⟩ := M.ex
  exact pe_subO ho hi h1 h2 h3 F (hr.mono hk) pass0 hsl
theorem call_len_ (M : Ow X.prog X.w X.K X.mg X.base k C "__len__" sp) (hr : Room j X.A) (hk : k + 1 ≤ j) : CallR X (.builtin "len") (rLenO C sp E0) := by
  obtain ⟨g, h1, h2, h3, F⟩ := M.ex
  exact call_lenO h1 h2 F (hr.mono hk) pass0
theorem call_str_ (M : Ow X.prog X.w X.K X.mg X.base k C "__str__" sp) (hr : Room j X.A) (hk : k + 2 ≤ j) : CallR X (.type "str") (rStrO C sp E0) := by
  obtain ⟨g, h1, h2, h3, F⟩ := M.ex
  exact call_strO h1 h2 F (hr.mono hk) pass0
theorem op_eq_ (M : Ow X.prog X.w X.K X.mg X.base k C "__eq__" sp) (hr : Room j X.A) (hk : k ≤ j) : OpR X (compareOp .Eq) (rEqO X.K C sp E0) := by
  obtain ⟨g, h1, h2, h3, F⟩ := M.ex
  exact op_eqO h1 h2 F (hr.mono hk) pass0
theorem op_ne_ (M : Ow X.prog X.w X.K X.mg X.base k C "__eq__" sp) (hne : PySem.W.findIn X.K (.ref C) "__ne__" = some (some (.builtin "object.__ne__"))) (hm : PySem.W.mroIn X.K C (.type "object") = some true) (hr : Room j X.A) (hk : k + 1 ≤ j) : OpR X (compareOp .NotEq) (rNeO X.K C sp E0) := by
  obtain ⟨g, h1, h2, h3, F⟩ := M.ex
  exact op_neO h1 h2 hne hm F (hr.mono hk) pass0
/-- x(e, ..), a class -/
theorem pe_mk (M : Mkr X.prog X.w X.K X.mg X.base k x C sp) (hr : Room j X.A) (hk : k + 1 ≤ j) (hg : Gl X x) (ha : PA X (e :: es) t) (hdb : (x == ("__debug__" : Str)) = false := by decide)
    (he : starEach (e :: es) X.env = (false, eval e X.env) :: starEach es X.env := by rfl) (hpl : (backTo pos (starEach es X.env)).any (·.1) = false := by rfl) : PE X (.Call (.Name x p) (e :: es) [] pos) (StX.tMakeR C sp E0 t) := by
  obtain ⟨hm, g, M, F⟩ := M.ex
  exact StX.pe_makeR M F (hr.mono hk) hg hm pass0 ha hdb he hpl
theorem pe_mkK (M : MkrK X.prog X.w X.K X.mg X.base k n x C ks sp) (hr : Room j X.A) (hk : k + 1 ≤ j) (hg : Gl X x) (ha : PA X (e :: es) t) (hkw : PK X kws tkw)
    (hall : (backToKw pos (keywordEach kws X.env)).all (·.1.isSome) = true := by rfl) (hks : (backToKw pos (keywordEach kws X.env)).filterMap (·.1) = ks := by rfl) (hdb : (x == ("__debug__" : Str)) = false := by decide)
    (he : starEach (e :: es) X.env = (false, eval e X.env) :: starEach es X.env := by rfl) (hpl : ((backTo pos (starEach (e :: es) X.env)).any (·.1) || (backToKw pos (keywordEach kws X.env)).any (·.1.isNone)) = false := by rfl) :
    PE X (.Call (.Name x p) (e :: es) kws pos) (tMakeK C n ks.length sp (fun vs zs => vs ++ zs) E0 t tkw) := by
  obtain ⟨hm, g, fd, ps, M, F, hb⟩ := M.ex
  exact pe_makeK M F (hr.mono hk) hg hm hb pass0 ha hkw hall hks hdb he hpl
/-- c(*e), c(e, *f), c holding the class -/
def tMakeV (C : Addr) (sp : Sp) (E : XK) (tf : TE) (t : TA) : TE := fun σ H Q => tf σ H fun y H1 => y = .ref C ∧ t σ H1 fun vs H2 => ∀ x dx, H2 x = Option.none → H2 dx = Option.none → dx ≠ x →
  sp (V.ref x :: vs) (upd (upd H2 dx (.own x)) x (.ins C dx [])) (fun v H3 => v = .non ∧ Q (.ref x) H3) E
theorem pe_mkS2 (M : Mkr X.prog X.w X.K X.mg X.base k x C sp) (hr : Room j X.A) (hk : k + 1 ≤ j) (hf : PE X fe tf) (ha : PA X (e :: es) t)
    (ht : eval (.Call fe (e :: es) [] pos) X.env = (do callWith pos (← eval fe X.env) [] (backTo pos (starEach (e :: es) X.env)) (backToKw pos (keywordEach [] X.env))) := by rfl)
    (he : starEach (e :: es) X.env = (false, eval e X.env) :: starEach es X.env := by rfl) (hst : (backTo pos (starEach es X.env)).any (·.1) = true := by rfl) : PE X (.Call fe (e :: es) [] pos) (tMakeV C sp E0 tf t) := by
  obtain ⟨hm, g, M, F⟩ := M.ex
  refine ⟨fun pins s σ H Q I h => ?_⟩
  refine Call_ (thn (hf.run pins s σ H _ I h) fun u s1 ⟨y, H1, I1, ry, ey, q⟩ => ?_) ht
  subst ey
  cases (show u = Value.ref C from ry)
  refine PySem.W.callWith_S2 (h₀ := X.base) I.ok.mod.kin M.kp (thn (ha.run pos pins s1 σ H1 _ I1 q) fun us s1 ⟨vs, H1, I1, r, q⟩ => ⟨I1.kIn, ?_⟩) he hst
  exact StX.run_makeR M F (hr.mono hk) pass0 I1 r q
theorem pe_mkS1 (M : Mkr X.prog X.w X.K X.mg X.base k x C sp) (hr : Room j X.A) (hk : k + 1 ≤ j) (hf : PE X fe tf) (he : PE X e te)
    (ht : eval (.Call fe [.Starred e sp_] [] pos) X.env = (do callWith pos (← eval fe X.env) [] (backTo pos (starEach [.Starred e sp_] X.env)) (backToKw pos (keywordEach [] X.env))) := by rfl)
    (hst : starEach [.Starred e sp_] X.env = [(true, eval e X.env)] := by rfl) : PE X (.Call fe [.Starred e sp_] [] pos) (tMakeV C sp E0 tf (StX.tStar X.K te tNil)) := by
  obtain ⟨hm, g, M, F⟩ := M.ex
  refine ⟨fun pins s σ H Q I h => ?_⟩
  refine Call_ (thn (hf.run pins s σ H _ I h) fun u s1 ⟨y, H1, I1, ry, ey, q⟩ => ?_) ht
  subst ey
  cases (show u = Value.ref C from ry)
  refine PySem.W.callWith_S (h₀ := X.base) I.ok.mod.kin M.kp (thn (he.run pins s1 σ H1 _ I1 q) fun v s2 ⟨z, H2, I2, rz, a, xs, ez, hxs, q2⟩ => ?_) hst
  subst ez
  cases (show v = Value.ref a from rz)
  refine StX.star_any I2 hxs fun us s3 I3 rv => ⟨I3.kIn, ?_⟩
  exact StX.run_makeR M F (hr.mono hk) pass0 I3 rv (fun x dx h1 h2 h3 => by have z := q2 x dx h1 h2 h3; rw [List.append_nil] at z; exact z)
/-- x.m(e, ..), a classmethod of the class x -/
theorem pe_cm (M : Cm X.prog X.w X.K X.mg X.base k x C m sp) (hr : Room j X.A) (hk : k ≤ j) (hg : Gl X x) (ha : PA X (e :: es) t) (hdb : (x == ("__debug__" : Str)) = false := by decide)
    (hst : starEach (e :: es) X.env = (false, eval e X.env) :: starEach es X.env := by rfl) (hpl : (backTo pos (starEach es X.env)).any (·.1) = false := by rfl)
    (ht : eval (.Call (.Attribute (.Name x p) m apos) (e :: es) [] pos) X.env = (do
      let ov ← eval (.Name x p) X.env
      standAt apos.atName
      let (f, first) ← holding [ov] (getMethod ov m pl)
      callWith pos f first (backTo pos (starEach (e :: es) X.env)) (backToKw pos (keywordEach [] X.env))) := by rfl) :
    PE X (.Call (.Attribute (.Name x p) m apos) (e :: es) [] pos) (ClX.tCMeth C sp E0 (tC (.ref C)) t) := by
  obtain ⟨hm, mc, q, g, r, c, F⟩ := M.ex
  exact ClX.pe_cmeth (pl := pl) (pe_glob hg hm rfl hdb) r c F (hr.mono hk) pass0 ha hst hpl ht
/-- x(e, ..), a def that shows data -/
theorem pe_callQ (c : ClQ X.prog X.w X.K X.mg X.base k x sp) (hq : X.A.guards = some []) (hr : Room j X.A) (hk : k ≤ j) (hg : Gl X x) (ha : PA X (e :: es) t)
    (hdb : (x == ("__debug__" : Str)) = false := by decide) (he : starEach (e :: es) X.env = (false, eval e X.env) :: starEach es X.env := by rfl) (hpl : (backTo pos (starEach es X.env)).any (·.1) = false := by rfl) :
    PE X (.Call (.Name x p) (e :: es) [] pos) (tCallR sp E0 t) := by
  obtain ⟨f, hm, kp, F⟩ := c.ex
  refine ⟨fun pins s σ H Q I h => ?_⟩
  refine wpAny_Call_Name_kw (ld_glob I hg hm ?_ hdb)
  refine PySem.W.callWith_K (h₀ := X.base) I.ok.mod.kin kp (thn (ha.run pos pins s σ H _ I h) fun us s1 ⟨vs, H1, I1, r, q⟩ => ⟨I1.kIn, ?_⟩) he hpl
  refine wpAny_call (codeAny_mono (F X.A X.stack s1 H1 us vs Q E0 hq (hr.mono hk) I1.env0 r q) fun r s' hq => ?_)
  cases r with
  | error e => exact pass0 pins σ H1 s1 e s' I1 hq
  | ok fl =>
    cases fl with
    | ret u => exact I1.after hq
    | next => exact False.elim hq
    | brk => exact False.elim hq
    | cont => exact False.elim hq
end
section
variable {P : Program} {w : World} {K : PySem.W.Frag} {mg : Str → Option Value} {base : Heap}
/-- the def by its body, FnOk -/
theorem fnOk_of {α : Type} {pre : α → List Addr → Prop} {ar : α → List Rp} {mi mo : α → Ms} {res : α → Rp} {x qual : Str} {params : Arguments} {body : List Stmt} {scope : Scope} {dvs : List V} {kws : List (Str × V)} {f : Addr} {fd : FuncData} {N ps : List Str} {k : Nat}
    (F : FunD K x qual params body scope dvs kws f fd) (S : FnScope N ps scope) (hl : ∀ x, (ar x).length = ps.length)
    (hbody : ∀ (cdv : Value) (A : Around) (outer : List Env) (s : Shared) (H0 : Hp) (vs : List V) (Q : VK) (E : XK), Room k (A.deeper (envOfC qual scope s.heap.objs.size f cdv)) → ∀ (z : α) (L : List Addr) (G : Hp), pre z L →
      (∀ ctx σ G' H', Sx ⟨(mi z).map (·.1), G, H0⟩ L ctx (mo z) σ G' H' → ∀ v, (res z).ok v G' → Q v H') →
      Sx ⟨(mi z).map (·.1), G, H0⟩ L ((ar z).map some ++ List.replicate (N.length - (ar z).length) none) (mi z) (L2.start N vs) G H0 →
      ∃ t, PSs (cxOf CX0 P w K mg base N qual scope f cdv A outer s H0 E).nox body t ∧ t { nx := fun _ H' => Q .non H', rt := Q } (L2.start N vs) H0) :
    FnOk P w K mg base CX0 (k + 1) f fd ps (spF pre ar mi mo res) := by
  refine F.ok S (fun vs H Q E h => ?_) (fun cdv A outer s H vs Q E hr h => ?_)
  · obtain ⟨z, L, _, G, _, hal, _⟩ := h
    rw [← hal.len, hl]
  · obtain ⟨z, L, hp, G, x, hal, m, kk⟩ := h
    obtain ⟨t, h1, h2⟩ := hbody cdv A outer s H vs Q E hr z L G hp (fun ctx σ G' H' S' v hv => kk v G' H' S'.stp S'.ex S'.mem hv) (sx_start x hal m)
    exact ⟨t, h1.nox, h2⟩
/-- .. of a def with a star parameter behind the others -/
theorem fnS_of {α : Type} {pre : α → List Addr → Prop} {ar : α → List Rp} {rest : α → List Rp} {mi mo : α → Ms} {res : α → Rp} {x qual pv : Str} {params : Arguments} {body : List Stmt} {scope : Scope} {kws : List (Str × V)} {f : Addr} {fd : FuncData} {N ps : List Str} {k : Nat}
    (F : FunD K x qual params body scope [] kws f fd) (S : FnScope N (ps ++ [pv]) scope) (hl : ∀ x, (ar x).length = ps.length) (hr0 : ∀ z L, pre z L → (rest z).length ≤ 1000)
    (hb : ∀ (kV doc pm : Value) (an : Option Addr) (cdv ct : Value) (us rest : List Value), us.length = ps.length → bindArgs (PySem.W.fnOf x qual params body scope .none kV doc pm an cdv ct) ⟨us ++ rest, []⟩ = (newTuple rest >>= fun t => pure (ps.zip us ++ [(pv, t)])))
    (hbody : ∀ (cdv : Value) (A : Around) (outer : List Env) (s : Shared) (H0 : Hp) (vs : List V) (Q : VK) (E : XK), Room k (A.deeper (envOfC qual scope s.heap.objs.size f cdv)) → ∀ (z : α) (L : List Addr) (G : Hp), pre z L →
      (∀ ctx σ G' H', Sx ⟨(mi z).map (·.1), G, H0⟩ L ctx (mo z) σ G' H' → ∀ v, (res z).ok v G' → Q v H') →
      Sx ⟨(mi z).map (·.1), G, H0⟩ L ((ar z ++ [rTup (rest z)]).map some ++ List.replicate (N.length - (ar z ++ [rTup (rest z)]).length) none) (mi z) (L2.start N vs) G H0 →
      ∃ t, PSs (cxOf CX0 P w K mg base N qual scope f cdv A outer s H0 E).nox body t ∧ t { nx := fun _ H' => Q .non H', rt := Q } (L2.start N vs) H0) :
    FnR P w K mg base CX0 (k + 1) f (spF pre (fun z => ar z ++ rest z) mi mo res) := by
  obtain ⟨oc, od, dV, kV, doc, pm, an, cdv, ct, osl, rfl, lk, hcd, hD, hK⟩ := F.ex
  rcases hD with ⟨_, rfl⟩ | ⟨e, _⟩
  · refine (StX.fn_star (sp := fun vs H Q E => ∃ (z : α) (L : List Addr), pre z L ∧ Pr L (ar z ++ [rTup (rest z)]) (mi z) (mo z) (res z) vs H Q) lk hcd S StX.cxUp_none (hb kV doc pm an cdv ct) fun A outer s H vs Q E hr h => ?_).imp fun vs H Q E h => ?_
    · obtain ⟨z, L, hp, G, x, hal, m, kk⟩ := h
      obtain ⟨t, h1, h2⟩ := hbody cdv A outer s H vs Q E hr z L G hp (fun ctx σ G' H' S' v hv => kk v G' H' S'.stp S'.ex S'.mem hv) (sx_start x hal m)
      exact ⟨t, h1.nox, h2⟩
    · obtain ⟨z, L, hp, G, x, hal, m, kk⟩ := h
      have e1 : (ar z).length + (rest z).length = vs.length := by have := hal.len; rw [List.length_append] at this; exact this
      have hal1 : Al (ar z) (vs.take (ar z).length) G := by
        have := hal.take (ar z).length
        rwa [List.take_left] at this
      have hal2 : Al (rest z) (vs.drop (ar z).length) G := by
        have := hal.drop (ar z).length
        rwa [List.drop_left] at this
      refine ⟨vs.take (ar z).length, vs.drop (ar z).length, (List.take_append_drop _ _).symm, by rw [← hal1.len, hl], line_of (by rw [← hal2.len]; exact Nat.le_trans (hr0 z L hp) (by omega)), fun p hp' => ?_⟩
      have gp : G p = none := x.free hp'
      have e2 : Same G (upd G p (.tup (vs.drop (ar z).length))) := same_upd gp
      refine ⟨z, L, hp, upd G p (.tup (vs.drop (ar z).length)), x.add hp', (hal1.mono e2).app (.cons ⟨p, _, rfl, upd_same, hal2.mono e2⟩ .nil), ⟨fun q hq => ?_, fun q hq => ?_, m.nd⟩, fun v G' H' s' x' m' hv => ?_⟩
      · obtain ⟨u, hu⟩ := (m.at_ q hq).some_
        exact (m.at_ q hq).move e2 (upd_ne (ne_of_none hu hp'))
      · obtain ⟨u, hu⟩ := (m.at_ q hq).some_
        rw [upd_ne (ne_of_none hu hp')]
        exact m.out q hq
      · exact kk v G' H' ((Stp.new (ds := (mi z).map (·.1)) (o := .tup (vs.drop (ar z).length)) hp').trans s') x' m' hv
  · exact absurd rfl e
/-- .. of a def that shows data -/
theorem fnQ_of {α : Type} {pre : α → List Addr → Prop} {ar : α → List Rp} {mi mo : α → Ms} {res : α → Rp} {x qual : Str} {params : Arguments} {body : List Stmt} {scope : Scope} {kws : List (Str × V)} {f : Addr} {fd : FuncData} {N ps : List Str} {k : Nat}
    (F : FunD K x qual params body scope [] kws f fd) (S : FnScope N ps scope) (hl : ∀ x, (ar x).length = ps.length)
    (hb : ∀ (kV doc pm : Value) (an : Option Addr) (cdv ct : Value) (us : List Value), us.length = ps.length → bindArgs (PySem.W.fnOf x qual params body scope .none kV doc pm an cdv ct) ⟨us, []⟩ = pure (ps.zip us))
    (hbody : ∀ (cdv : Value) (A : Around) (outer : List Env) (s : Shared) (H0 : Hp) (vs : List V) (Q : VK) (E : XK), Room k (A.deeper (envOfC qual scope s.heap.objs.size f cdv)) → (A.deeper (envOfC qual scope s.heap.objs.size f cdv)).guards = some [] → ∀ (z : α) (L : List Addr) (G : Hp), pre z L →
      (∀ ctx σ G' H', Sx ⟨(mi z).map (·.1), G, H0⟩ L ctx (mo z) σ G' H' → ∀ v, (res z).ok v G' → Q v H') →
      Sx ⟨(mi z).map (·.1), G, H0⟩ L ((ar z).map some ++ List.replicate (N.length - (ar z).length) none) (mi z) (L2.start N vs) G H0 →
      ∃ t, PSs (cxOf CX0 P w K mg base N qual scope f cdv A outer s H0 E).nox body t ∧ t { nx := fun _ H' => Q .non H', rt := Q } (L2.start N vs) H0) :
    FnQ P w K mg base (k + 1) f (spF pre ar mi mo res) := by
  obtain ⟨oc, od, dV, kV, doc, pm, an, cdv, ct, osl, rfl, lk, hcd, hD, hK⟩ := F.ex
  rcases hD with ⟨_, rfl⟩ | ⟨e, _⟩
  · intro A outer s H us vs Q E hgd hr e0 r hsp
    obtain ⟨z, L, hp, G, x, hal, m, kk⟩ := hsp
    have hlen : us.length = ps.length := by rw [← r.length, ← hal.len, hl]
    refine StX.run_bnd lk hcd S hr e0 (G := fun xs H2 => xs = vs ∧ H2 = H) (fun A' Ex Q' h => ?_) fun s2 H2 xs ⟨ex, eH⟩ hr' => ?_
    · rw [hb kV doc pm an cdv ct us hlen]
      exact wpAny_pure (h s H vs us e0 Un.refl rfl (fun _ _ z => z) r (by rw [r.length, hlen]) ⟨rfl, rfl⟩)
    · subst ex eH
      obtain ⟨t, h1, h2⟩ := hbody cdv A outer s2 H2 xs Q E hr' hgd z L G hp (fun ctx σ G' H' S' v hv => kk v G' H' S'.stp S'.ex S'.mem hv) (sx_start x hal m)
      exact ⟨t, h1.nox, h2⟩
  · exact absurd rfl e
end
end K62
set_option maxHeartbeats 4000000
/-! K62Math: what the law speaks of, in plain Lean. -/
namespace K62
open PySem PySem.Spec PyProof.Rows L2

/-! ### parts -/
/-- a part: all, or the signs kept in front and behind -/
inductive Pt where
  | all
  | pat (f b : List Bool)
  deriving DecidableEq
def sg (b : Bool) : Nat := if b then 43 else 45
def sgs (l : List Bool) : Str := ⟨(l.map sg).toArray⟩
def Pt.str : Pt → Str
  | .all => "all"
  | .pat f b => ⟨(f.map sg ++ [46, 46] ++ b.map sg).toArray⟩
def blsN : Nat → List (List Bool)
  | 0 => [[]]
  | n + 1 => (blsN n).flatMap fun l => [true :: l, false :: l]
def blsTo : Nat → List (List Bool)
  | 0 => blsN 0
  | n + 1 => blsTo n ++ blsN (n + 1)
theorem mem_blsN : ∀ {n : Nat} {l : List Bool}, l.length = n → l ∈ blsN n
  | 0, [], _ => List.mem_singleton.mpr rfl
  | n + 1, b :: l, h => by
    refine List.mem_flatMap.mpr ⟨l, mem_blsN (Nat.succ.inj h), ?_⟩
    cases b <;> simp
theorem mem_blsTo : ∀ {n : Nat} {l : List Bool}, l.length ≤ n → l ∈ blsTo n
  | 0, l, h => mem_blsN (Nat.le_zero.mp h)
  | n + 1, l, h => by
    rcases Nat.lt_or_ge n l.length with z | z
    · exact List.mem_append_right _ (mem_blsN (by omega))
    · exact List.mem_append_left _ (mem_blsTo z)
/-- the parts that there are -/
def Pt.ok : Pt → Prop
  | .all => True
  | .pat f b => f.length ≤ 2 ∧ b.length ≤ 3
def pats : List Pt := (blsTo 2).flatMap fun f => (blsTo 3).map fun b => .pat f b
def pts : List Pt := .all :: pats
theorem mem_pats {f b : List Bool} (h : (Pt.pat f b).ok) : Pt.pat f b ∈ pats := List.mem_flatMap.mpr ⟨f, mem_blsTo h.1, List.mem_map.mpr ⟨b, mem_blsTo h.2, rfl⟩⟩
theorem mem_pts : ∀ {p : Pt}, p.ok → p ∈ pts
  | .all, _ => List.mem_cons_self
  | .pat _ _, h => List.mem_cons_of_mem _ (mem_pats h)
/-- is place i of n kept -/
def Pt.keep : Pt → Nat → Nat → Bool
  | .all, _, _ => true
  | .pat f b, n, i => (decide (i < f.length) && f.getD i false) || (decide (n ≤ i + b.length) && b.getD (b.length + i - n) false)
/-- the places kept of n -/
def pickI (p : Pt) (n : Nat) : List Nat := (List.range n).filter fun i => p.keep n i
def pick {α : Type} (p : Pt) (xs : List α) : List α := (pickI p xs.length).filterMap fun i => xs[i]?
def kept {α : Type} (ps : List Pt) (xs : List α) : List α := ps.foldl (fun r p => pick p r) xs
def whole (ps : List Pt) : Bool := ps.all fun p => p == .all
def sh (n i : Nat) : Nat := if i < 2 then i else n - 5 + i
/-- the places by the tables -/
def places (ps : List Pt) (n : Nat) : List Nat := if n ≤ 5 then kept ps (List.range n) else if whole ps then List.range n else (kept ps (List.range 5)).map (sh n)
theorem pick_map {α β : Type} (p : Pt) (f : α → β) (xs : List α) : pick p (xs.map f) = (pick p xs).map f := by
  unfold pick
  rw [List.length_map, List.map_filterMap]
  congr 1
  funext i
  rw [List.getElem?_map]
theorem kept_map {α β : Type} (f : α → β) : ∀ (ps : List Pt) (xs : List α), kept ps (xs.map f) = (kept ps xs).map f
  | [], _ => rfl
  | p :: ps, xs => by
    show kept ps (pick p (xs.map f)) = (kept ps (pick p xs)).map f
    rw [pick_map, kept_map f ps]
theorem filterMap_range (n : Nat) : ∀ (l : List Nat), (∀ i ∈ l, i < n) → l.filterMap (fun i => (List.range n)[i]?) = l
  | [], _ => rfl
  | i :: l, h => by
    rw [List.filterMap_cons, List.getElem?_range (h i List.mem_cons_self)]
    dsimp only
    rw [filterMap_range n l fun j hj => h j (List.mem_cons_of_mem _ hj)]
theorem pick_range (p : Pt) (n : Nat) : pick p (List.range n) = pickI p n := by
  unfold pick
  rw [List.length_range]
  exact filterMap_range n _ fun i hi => List.mem_range.mp (List.mem_filter.mp hi).1
theorem pick_all {α : Type} (xs : List α) : pick .all xs = xs := by
  have e : pickI .all xs.length = List.range xs.length := List.filter_eq_self.mpr fun _ _ => rfl
  unfold pick
  rw [e]
  refine List.ext_getElem? fun i => ?_
  have z : (List.range xs.length).filterMap (fun i => xs[i]?) = xs := by
    have : ∀ (k : Nat), k ≤ xs.length → (List.range k).filterMap (fun i => xs[i]?) = xs.take k := fun k => by
      induction k with
      | zero => intro _; rfl
      | succ k ih =>
        intro hk
        rw [List.range_succ, List.filterMap_append, ih (by omega), List.take_add_one]
        have : xs[k]? = some xs[k] := List.getElem?_eq_getElem (by omega)
        simp [this]
    rw [this _ (Nat.le_refl _), List.take_length]
  rw [z]
/-- a row as what stands at the places -/
theorem row_range {α : Type} (xs : List α) [Inhabited α] : xs = (List.range xs.length).map fun i => xs.getD i default := by
  refine List.ext_getElem? fun i => ?_
  rw [List.getElem?_map]
  rcases Nat.lt_or_ge i xs.length with h | h
  · rw [List.getElem?_range h, List.getElem?_eq_getElem h]
    simp [List.getD, List.getElem?_eq_getElem h]
  · rw [List.getElem?_eq_none h, List.getElem?_eq_none (by rw [List.length_range]; exact h)]
    rfl
theorem kept_row {α : Type} [Inhabited α] (ps : List Pt) (xs : List α) : kept ps xs = (kept ps (List.range xs.length)).map fun i => xs.getD i default := by
  have e := kept_map (fun i => xs.getD i default) ps (List.range xs.length)
  rw [← row_range xs] at e
  exact e
theorem shift_ok : (pats.all fun p => (List.range 13).all fun n => decide (n ≤ 5) || decide (pickI p n = (pickI p 5).map (sh n))) = true := by decide +kernel
theorem pick_shift {f b : List Bool} (h : (Pt.pat f b).ok) {n : Nat} (h5 : 5 < n) (h12 : n ≤ 12) : pickI (.pat f b) n = (pickI (.pat f b) 5).map (sh n) := by
  have z := List.all_eq_true.mp (List.all_eq_true.mp shift_ok _ (mem_pats h)) n (List.mem_range.mpr (by omega))
  have z2 : decide (n ≤ 5) = false := decide_eq_false (by omega)
  rw [z2, Bool.false_or] at z
  exact of_decide_eq_true z
/-- the tables say what is kept -/
theorem places_eq : ∀ {ps : List Pt}, (∀ p ∈ ps, p.ok) → ∀ {n : Nat}, n ≤ 12 → places ps n = kept ps (List.range n)
  | ps, hok, n, hn => by
    unfold places
    by_cases h5 : n ≤ 5
    · rw [if_pos h5]
    · rw [if_neg h5]
      induction ps with
      | nil => rfl
      | cons p ps ih =>
        cases p with
        | all =>
          have w : whole (.all :: ps) = whole ps := by simp [whole]
          have k : ∀ xs : List Nat, kept (.all :: ps) xs = kept ps xs := fun xs => by
            show kept ps (pick .all xs) = _
            rw [pick_all]
          rw [w, k, k]
          exact ih fun q hq => hok q (List.mem_cons_of_mem _ hq)
        | pat f b =>
          have w : whole (.pat f b :: ps) = false := by simp [whole]
          rw [w]
          show (kept ps (pick (.pat f b) (List.range 5))).map (sh n) = kept ps (pick (.pat f b) (List.range n))
          rw [pick_range, pick_range, pick_shift (hok _ List.mem_cons_self) (by omega) hn, kept_map]
theorem pickI_le (p : Pt) (n : Nat) : (pickI p n).length ≤ n := by
  have := List.length_filter_le (fun i => p.keep n i) (List.range n)
  rw [List.length_range] at this
  exact this
theorem pick_le {α : Type} (p : Pt) (xs : List α) : (pick p xs).length ≤ xs.length := Nat.le_trans (List.length_filterMap_le _ _) (pickI_le p _)
theorem kept_le {α : Type} : ∀ (ps : List Pt) (xs : List α), (kept ps xs).length ≤ xs.length
  | [], _ => Nat.le_refl _
  | p :: ps, xs => Nat.le_trans (kept_le ps (pick p xs)) (pick_le p xs)
/-- the rows of 0 to 6 places tell rules apart as the tables do -/
def tabs (ps : List Pt) : List (List Nat) := (List.range 6).map fun n => kept ps (List.range n)
theorem whole_kept : ∀ {ps : List Pt}, whole ps = true → ∀ {α : Type} (xs : List α), kept ps xs = xs
  | [], _, _, _ => rfl
  | p :: ps, h, _, xs => by
    have h1 : (p == Pt.all) = true ∧ whole ps = true := by simpa [whole] using h
    have e : p = .all := by simpa using h1.1
    subst e
    show kept ps (pick .all xs) = xs
    rw [pick_all, whole_kept h1.2]
theorem same_iff {ps qs : List Pt} (hp : ∀ p ∈ ps, p.ok) (hq : ∀ p ∈ qs, p.ok) : (∀ n < 7, kept ps (List.range n) = kept qs (List.range n)) ↔ tabs ps = tabs qs ∧ whole ps = whole qs := by
  have six : ∀ {ps : List Pt}, (∀ p ∈ ps, p.ok) → kept ps (List.range 6) = if whole ps then List.range 6 else (kept ps (List.range 5)).map (sh 6) := fun {ps} h => by
    rw [← places_eq h (by omega)]
    unfold places
    rw [if_neg (by omega)]
  have short : ∀ {ps : List Pt}, (∀ p ∈ ps, p.ok) → whole ps = false → kept ps (List.range 6) ≠ List.range 6 := fun {ps} h w e => by
    rw [six h, w, if_neg (by simp)] at e
    have := congrArg List.length e
    rw [List.length_map, List.length_range] at this
    have l := kept_le ps (List.range 5)
    rw [List.length_range] at l
    omega
  constructor
  · intro h
    refine ⟨List.map_congr_left fun n hn => h n (by have := List.mem_range.mp hn; omega), ?_⟩
    have h6 := h 6 (by omega)
    cases w1 : whole ps <;> cases w2 : whole qs
    · rfl
    · rw [whole_kept w2] at h6; exact absurd h6 (short hp w1)
    · rw [whole_kept w1] at h6; exact absurd h6.symm (short hq w2)
    · rfl
  · rintro ⟨ht, hw⟩ n hn
    have t : ∀ m < 6, kept ps (List.range m) = kept qs (List.range m) := fun m hm => by
      have := congrArg (fun l => l[m]?) ht
      simp only [tabs, List.getElem?_map, List.getElem?_range hm, Option.map_some] at this
      exact Option.some.inj this
    by_cases h6 : n < 6
    · exact t n h6
    · have e : n = 6 := by omega
      subst e
      rw [six hp, six hq, hw, t 5 (by omega)]
end K62
set_option maxHeartbeats 4000000
/-! K62Mat2: arrivals, sorted marks, places, groups, moves. -/
namespace K62
open PySem PySem.Spec PyProof.Rows L2

/-! ### sorted lists -/
theorem sorted_uniq : ∀ {xs ys : List Int}, xs.Perm ys → xs.Pairwise (· ≤ ·) → ys.Pairwise (· ≤ ·) → xs = ys
  | [], ys, p, _, _ => (List.nil_perm.mp p).symm
  | x :: xs, [], p, _, _ => absurd p.length_eq (by simp)
  | x :: xs, y :: ys, p, hx, hy => by
    have e : x = y := by
      have h1 : x ∈ y :: ys := p.subset List.mem_cons_self
      have h2 : y ∈ x :: xs := p.symm.subset List.mem_cons_self
      have a : y ≤ x := by
        rcases List.mem_cons.mp h1 with z | z
        · omega
        · exact (List.pairwise_cons.mp hy).1 x z
      have b : x ≤ y := by
        rcases List.mem_cons.mp h2 with z | z
        · omega
        · exact (List.pairwise_cons.mp hx).1 y z
      omega
    subst e
    rw [sorted_uniq (List.Perm.cons_inv p) (List.pairwise_cons.mp hx).2 (List.pairwise_cons.mp hy).2]
structure Arr where
  m : Int
  w : Str
  c : List Int
instance : Inhabited Arr := ⟨⟨0, "", []⟩⟩
def insA (a : Arr) : List Arr → List Arr
  | [] => [a]
  | b :: t => if a.m ≤ b.m then a :: b :: t else b :: insA a t
def srt (ls : List Arr) : List Arr := ls.foldr insA []
theorem insA_perm (a : Arr) : ∀ l : List Arr, (insA a l).Perm (a :: l)
  | [] => .refl _
  | b :: t => by
    unfold insA
    split
    · exact .refl _
    · exact ((insA_perm a t).cons b).trans (List.Perm.swap a b t)
theorem srt_perm : ∀ ls : List Arr, (srt ls).Perm ls
  | [] => .refl _
  | a :: l => (insA_perm a (srt l)).trans ((srt_perm l).cons a)
theorem insA_sorted (a : Arr) : ∀ {l : List Arr}, l.Pairwise (fun x y => x.m ≤ y.m) → (insA a l).Pairwise (fun x y => x.m ≤ y.m)
  | [], _ => List.pairwise_singleton _ _
  | b :: t, h => by
    obtain ⟨h1, h2⟩ := List.pairwise_cons.mp h
    unfold insA
    split
    · rename_i z
      refine List.pairwise_cons.mpr ⟨fun x hx => ?_, h⟩
      rcases List.mem_cons.mp hx with e | e
      · rw [e]; exact z
      · have := h1 x e; omega
    · rename_i z
      refine List.pairwise_cons.mpr ⟨fun x hx => ?_, insA_sorted a h2⟩
      rcases List.mem_cons.mp ((insA_perm a t).subset hx) with e | e
      · rw [e]; omega
      · exact h1 x e
theorem srt_sorted : ∀ ls : List Arr, (srt ls).Pairwise (fun x y => x.m ≤ y.m)
  | [] => .nil
  | a :: l => insA_sorted a (srt_sorted l)
def marks (ls : List Arr) : List Int := (srt ls).map (·.m)
theorem marks_perm (ls : List Arr) : (marks ls).Perm (ls.map (·.m)) := (srt_perm ls).map _
theorem marks_le (ls : List Arr) : (marks ls).Pairwise (· ≤ ·) := List.pairwise_map.mpr (srt_sorted ls)
/-- what sorted() gives of the marks -/
theorem marks_uniq {ls : List Arr} {ns : List Int} (p : ns.Perm (ls.map (·.m))) (h : ns.Pairwise (· ≤ ·)) : ns = marks ls := sorted_uniq (p.trans (marks_perm ls).symm) h (marks_le ls)
theorem marks_nd {ls : List Arr} (h : (ls.map (·.m)).Nodup) : (marks ls).Nodup := (marks_perm ls).nodup_iff.mpr h
theorem marks_lt {ls : List Arr} (h : (ls.map (·.m)).Nodup) : (marks ls).Pairwise (· < ·) := by
  have a := marks_le ls
  have b := marks_nd h
  exact (List.Pairwise.and a b).imp fun ⟨x, y⟩ => by omega
theorem mem_marks {ls : List Arr} {x : Int} : x ∈ marks ls ↔ x ∈ ls.map (·.m) := (marks_perm ls).mem_iff
theorem marks_length (ls : List Arr) : (marks ls).length = ls.length := by rw [(marks_perm ls).length_eq, List.length_map]
def arrOf (ls : List Arr) (x : Int) : Arr := (ls.find? fun a => decide (a.m = x)).getD default
theorem find_arr : ∀ {ls : List Arr}, (ls.map (·.m)).Nodup → ∀ {a : Arr}, a ∈ ls → ls.find? (fun b => decide (b.m = a.m)) = some a
  | b :: t, h, a, ha => by
    rw [List.map_cons] at h
    obtain ⟨h1, h2⟩ := List.nodup_cons.mp h
    rw [List.find?_cons]
    rcases List.mem_cons.mp ha with e | e
    · subst e; simp
    · have ne : ¬ b.m = a.m := fun z => h1 (z ▸ List.mem_map.mpr ⟨a, e, rfl⟩)
      rw [decide_eq_false ne]
      exact find_arr h2 e
theorem arrOf_mem {ls : List Arr} (h : (ls.map (·.m)).Nodup) {a : Arr} (ha : a ∈ ls) : arrOf ls a.m = a := by
  unfold arrOf
  rw [find_arr h ha]
  rfl
theorem arrOf_in {ls : List Arr} {x : Int} (hx : x ∈ ls.map (·.m)) : arrOf ls x ∈ ls ∧ (arrOf ls x).m = x := by
  obtain ⟨a, ha, e⟩ := List.mem_map.mp hx
  unfold arrOf
  cases q : ls.find? fun b => decide (b.m = x) with
  | none => exact absurd (List.find?_eq_none.mp q a ha) (by simp [e])
  | some b => exact ⟨List.mem_of_find?_eq_some q, by have := List.find?_some q; simpa using this⟩
theorem srt_marks {ls : List Arr} (h : (ls.map (·.m)).Nodup) : srt ls = (marks ls).map (arrOf ls) := by
  unfold marks
  rw [List.map_map]
  refine (List.map_id _).symm.trans (List.map_congr_left fun a ha => ?_)
  exact (arrOf_mem h ((srt_perm ls).subset ha)).symm

/-! ### entries -/
structure Ent where
  ps : List Pt
  se : Bool
  ls : List Arr
instance : Inhabited Ent := ⟨⟨[], false, []⟩⟩
def bd (e : Ent) (x : Int) : List Int := kept e.ps (arrOf e.ls x).c
def plc (e : Ent) (x : Int) : Option Int := ((bd e x).filter fun y => decide (y ∈ marks e.ls)).getLast?
def adj (se : Bool) (b : Int → List Int) (x y : Int) : Bool := decide (x ≠ y) && (decide (x ∈ b y) || decide (y ∈ b x) || (se && (b x).any fun s => decide (s ∈ b y)))
inductive Rch (ms : List Int) (ad : Int → Int → Bool) (s : Int) : Int → Prop where
  | refl : Rch ms ad s s
  | step {x y : Int} (h : Rch ms ad s x) (hy : y ∈ ms) (ha : ad x y = true) : Rch ms ad s y
open Classical in
noncomputable def comp (ms : List Int) (ad : Int → Int → Bool) (s : Int) : List Int := ms.filter fun y => decide (Rch ms ad s y)
noncomputable def grp (ms : List Int) (ad : Int → Int → Bool) : List Int → List Int → List (List Int)
  | [], _ => []
  | m :: t, known => if m ∈ known then grp ms ad t known else comp ms ad m :: grp ms ad t (known ++ comp ms ad m)
noncomputable def groups (e : Ent) : List (List Int) := grp (marks e.ls) (adj e.se (bd e)) (marks e.ls) []
/-- a search that has come to its end found the group -/
theorem comp_uniq {ms : List Int} {ad : Int → Int → Bool} {s : Int} {F ns : List Int} (hs : ms.Pairwise (· < ·)) (hm : s ∈ ms) (nd : F.Nodup) (h0 : s ∈ F) (hr : ∀ x ∈ F, Rch ms ad s x) (hc : ∀ x ∈ F, ∀ y ∈ ms, ad x y = true → y ∈ F)
    (p : ns.Perm F) (hn : ns.Pairwise (· ≤ ·)) : ns = comp ms ad s := by
  have all : ∀ y, Rch ms ad s y → y ∈ F ∧ y ∈ ms := fun y h => by
    induction h with
    | refl => exact ⟨h0, hm⟩
    | step h hy ha ih => exact ⟨hc _ ih.1 _ hy ha, hy⟩
  have ndm : ms.Nodup := hs.imp fun h => by omega
  have ndc : (comp ms ad s).Nodup := List.Nodup.sublist List.filter_sublist ndm
  refine sorted_uniq (p.trans ?_) hn ((hs.imp fun h => by omega : ms.Pairwise (· ≤ ·)).sublist List.filter_sublist)
  refine (List.perm_ext_iff_of_nodup nd ndc).mpr fun y => ?_
  unfold comp
  rw [List.mem_filter]
  constructor
  · intro h; exact ⟨(all y (hr y h)).2, by simpa using hr y h⟩
  · rintro ⟨_, h⟩; exact (all y (by simpa using h)).1
theorem comp_mem {ms : List Int} {ad : Int → Int → Bool} {s y : Int} : y ∈ comp ms ad s ↔ y ∈ ms ∧ Rch ms ad s y := by
  unfold comp
  rw [List.mem_filter]
  simp

/-! ### moves -/
def chg : List (Option Int) → Nat
  | a :: b :: t => (if a = b then 0 else 1) + chg (b :: t)
  | _ => 0
theorem chg_snoc : ∀ (l : List (Option Int)) (a b : Option Int), chg (l ++ [a, b]) = chg (l ++ [a]) + if a = b then 0 else 1
  | [], a, b => by simp [chg]
  | [x], a, b => by simp [chg]
  | x :: y :: t, a, b => by
    have ih := chg_snoc (y :: t) a b
    simp only [List.cons_append] at ih ⊢
    show (if x = y then 0 else 1) + chg (y :: (t ++ [a, b])) = (if x = y then 0 else 1) + chg (y :: (t ++ [a])) + _
    rw [ih]
    omega
theorem chg_count : ∀ l : List (Option Int), chg l = ((List.range (l.length - 1)).filter fun i => !decide (l.getD i none = l.getD (i + 1) none)).length
  | [] => rfl
  | [a] => rfl
  | a :: b :: t => by
    have ih := chg_count (b :: t)
    show (if a = b then 0 else 1) + chg (b :: t) = _
    rw [ih]
    have e : (a :: b :: t).length - 1 = ((b :: t).length - 1) + 1 := by simp
    rw [e, List.range_succ_eq_map, List.filter_cons]
    have e2 : ((List.map Nat.succ (List.range ((b :: t).length - 1))).filter fun i => !decide ((a :: b :: t).getD i none = (a :: b :: t).getD (i + 1) none)) = ((List.range ((b :: t).length - 1)).filter fun i => !decide ((b :: t).getD i none = (b :: t).getD (i + 1) none)).map Nat.succ := by
      rw [List.filter_map]
      rfl
    rw [e2]
    by_cases h : a = b
    · simp [h]
    · simp [h]
      omega
def plcs (h : List Ent) (x : Int) : List (Option Int) := (h.filter fun e => decide (x ∈ marks e.ls)).map fun e => plc e x
def mvs (h : List Ent) (x : Int) : Nat := chg (plcs h x)
/-- letters are never lost along a history -/
def Grow (h : List Ent) : Prop := h.Pairwise fun a b => ∀ x ∈ marks a.ls, x ∈ marks b.ls
theorem plcs_snoc (h : List Ent) (e : Ent) (x : Int) : plcs (h ++ [e]) x = plcs h x ++ if x ∈ marks e.ls then [plc e x] else [] := by
  unfold plcs
  rw [List.filter_append, List.map_append]
  congr 1
  by_cases hx : x ∈ marks e.ls <;> simp [hx]
theorem mvs_new {h : List Ent} {e : Ent} {x : Int} (hn : ∀ a ∈ h, x ∉ marks a.ls) : mvs (h ++ [e]) x = 0 := by
  unfold mvs
  rw [plcs_snoc]
  have z : plcs h x = [] := by
    unfold plcs
    rw [List.filter_eq_nil_iff.mpr fun a ha => by simpa using hn a ha]
    rfl
  rw [z]
  by_cases hx : x ∈ marks e.ls <;> simp [hx, chg]
theorem mvs_step {h : List Ent} {e f : Ent} {x : Int} (hx : x ∈ marks f.ls) (hy : x ∈ marks e.ls) : mvs (h ++ [f] ++ [e]) x = mvs (h ++ [f]) x + if plc f x = plc e x then 0 else 1 := by
  unfold mvs
  rw [plcs_snoc, plcs_snoc, if_pos hx, if_pos hy, List.append_assoc]
  exact chg_snoc _ _ _
end K62
set_option maxHeartbeats 4000000
/-! K62Sp: what the values of the program stand for; small rules for readings. -/
namespace K62
open PySem PySem.Spec PyProof.Rows L2

def rP (p : Pt) : Rp := rS p.str
abbrev rN_ (n : Nat) : Rp := rI (n : Int)
def rNs (ns : List Nat) : Rp := rTup (ns.map rN_)
def rTabs (ps : List Pt) : Rp := rTup ((tabs ps).map rNs)
def rCut (K : Fr) (ps : List Pt) : Rp := rIns (He.ga K "Cutter") [("own_parts", rTup (ps.map rP)), ("own_tables", rTabs ps), ("own_is_whole", rB (whole ps))]
def rRule (K : Fr) (ps : List Pt) (se : Bool) : Rp := rIns (He.ga K "Rule") [("own_cutter", rCut K ps), ("own_sees", rB se)]
def rArr (a : Arr) : Rp := rTup [rI a.m, rS a.w, rInts a.c]
def rLet (ls : List Arr) : Rp := rDct (ls.map fun a => (a.m, rArr a))
def oV : Option Int → V
  | none => .non
  | some i => .int i
def rOpt (o : Option Int) : Rp := rV (oV o)
def lastE (h : List Ent) : Ent := h.getLast?.getD default
noncomputable def pageF (K : Fr) (h : List Ent) : List (Str × Rp) :=
  let e := lastE h
  [("own_rule", rRule K e.ps e.se), ("own_marks", rInts (marks e.ls)), ("own_letters", rLet (srt e.ls)), ("own_bound", rDct ((marks e.ls).map fun m => (m, rInts (bd e m)))),
    ("own_shown", rDct ((marks e.ls).map fun m => (m, rOpt (plc e m)))), ("own_moves", rDct ((marks e.ls).map fun m => (m, rN_ (mvs h m)))), ("own_near", rAny), ("own_groups", rTup ((groups e).map rInts))]
noncomputable def rPage (K : Fr) (h : List Ent) : Rp := rIns (He.ga K "Page") (pageF K h)
noncomputable def inbF (K : Fr) (h : List Ent) (now : Nat) : List (Str × Rp) :=
  [("own_pages", rTup ((List.range h.length).map fun i => rPage K (h.take (i + 1)))), ("own_version", rN_ now), ("own_marks", rInts (marks (h.getD now default).ls))]
noncomputable def rInb (K : Fr) (h : List Ent) (now : Nat) : Rp := rIns (He.ga K "Inbox") (inbF K h now)
noncomputable abbrev cInb (K : Fr) (dx : Addr) (h : List Ent) (now : Nat) : Cell := .ins (He.ga K "Inbox") dx (inbF K h now)
def rEnt (e : Ent) : Rp := rTup [rLst (e.ps.map rP), rB e.se, rLet e.ls, rDct ((marks e.ls).map fun m => (m, rOpt (plc e m)))]
def rHist (h : List Ent) : Rp := rLst (h.map rEnt)
/-! ### what is asked of these -/
def okPs (ps : List Pt) : Prop := (∀ p ∈ ps, p.ok) ∧ ps.length ≤ 4
structure okArr (a : Arr) : Prop where
  m0 : 0 ≤ a.m
  m1 : a.m ≤ 100000000000
  w : a.w ∈ (["ann", "bob", "eve", "zzzzzzzz"] : List Str)
  up : (a.c ++ [a.m]).Pairwise (· < ·)
  c0 : ∀ x ∈ a.c, 0 ≤ x
  cl : a.c.length ≤ 9
structure okLs (ls : List Arr) : Prop where
  nd : (ls.map (·.m)).Nodup
  ok : ∀ a ∈ ls, okArr a
  len : ls.length ≤ 12
structure okE (e : Ent) : Prop where
  ps : okPs e.ps
  ls : okLs e.ls
structure okH (h : List Ent) : Prop where
  ne : h ≠ []
  ok : ∀ e ∈ h, okE e
  gr : Grow h
  len : h.length ≤ 40

/-! ### small rules -/
section
variable {B : Bs} {L : List Addr} {ctx : Ct} {ms ms1 ms2 ms3 : Ms} {te ta tb : TE} {tl : TA} {tt : TT} {r r1 r2 r3 : Rp} {rr : R2} {K : PySem.W.Frag} {b c : Bool}
theorem rv_exR {α : Type} {P : α → Prop} {f : α → Rp} (h : ∀ a, P a → RvM B L rr r1 (f a) ctx ms r3 ms1) : RvM B L rr r1 (rEx P f) ctx ms r3 ms1 := fun σ G H x y S h1 ⟨a, pa, h2⟩ Q k => h a pa σ G H x y S h1 h2 Q k
theorem rv_exL {α : Type} {P : α → Prop} {f : α → Rp} (h : ∀ a, P a → RvM B L rr (f a) r2 ctx ms r3 ms1) : RvM B L rr (rEx P f) r2 ctx ms r3 ms1 := fun σ G H x y S ⟨a, pa, h1⟩ h2 Q k => h a pa σ G H x y S h1 h2 Q k
theorem rc_ex {α : Type} {P : α → Prop} {f : α → Rp} {rc : List V → Hp → VK → Prop} (h : ∀ a, P a → RcM B L rc [f a] ctx ms r3 ms1) : RcM B L rc [rEx P f] ctx ms r3 ms1 := fun σ G H xs S hal Q k => by
  obtain ⟨v, rfl, a, pa, hv⟩ := al1 hal
  exact h a pa σ G H [v] S (.cons hv .nil) Q k
theorem rv_to {r1' r2' : Rp} (h : RvM B L rr r1 r2 ctx ms r3 ms1) (e1 : r1' = r1) (e2 : r2' = r2) : RvM B L rr r1' r2' ctx ms r3 ms1 := by subst e1 e2; exact h
theorem ev_b (h : EvM B L te ctx ms (rB b) ms1) (e : b = c) : EvM B L te ctx ms (rB c) ms1 := e ▸ h
theorem et_b (h : EvT B L tt ctx ms b ms1) (e : b = c) : EvT B L tt ctx ms c ms1 := e ▸ h
/-- an if whose test is what it is -/
theorem st_ifV {D : Ends} {ts tw : TS} {σ : L2.St} {G H : Hp} (h : EvT B L tt ctx ms b ms1) (S : Sx B L ctx ms σ G H) (k : ∀ G' H', Same G G' → Sx B L ctx ms1 σ G' H' → (b = true → ts D σ H') ∧ (b = false → tw D σ H')) : tIfS tt ts tw D σ H :=
  st_if h S (fun e G' H' z S' => (k G' H' z S').1 e) fun e G' H' z S' => (k G' H' z S').2 e
/-- unpacking -/
theorem st_unp {D : Ends} {g : TG} {σ : L2.St} {G H : Hp} {ctx' : Ct} {vs : List Nat} (h : EvM B L te ctx ms r ms1) (g1 : GM g r ctx ctx' vs) (S : Sx B L ctx ms σ G H) (k : ∀ σ' G' H', Same G G' → Sx B L ctx' ms1 σ' G' H' → D.nx σ' H') : tAsg te g D σ H :=
  h σ G H S _ fun v G1 H1 e1 S1 q => g1 B L ms1 σ G1 H1 v S1 q _ fun σ' S2 _ => k σ' G1 H1 e1 S2
theorem st_par {D : Ends} {σ : L2.St} {G H : Hp} {i j : Nat} (h : EvA B L tl ctx ms [r1, r2] ms1) (S : Sx B L ctx ms σ G H) (k : ∀ σ' G' H', Same G G' → Sx B L ((ctx.set i (some r1)).set j (some r2)) ms1 σ' G' H' → D.nx σ' H') : tPar i j tl D σ H :=
  h σ G H S _ fun vs G1 H1 e1 S1 hal => by
    obtain ⟨v, w, rfl, h1, h2⟩ := al2 hal
    exact ⟨v, w, rfl, k _ G1 H1 e1 ((S1.set h1).set h2)⟩
theorem st_par3 {D : Ends} {σ : L2.St} {G H : Hp} {i j l : Nat} (h : EvA B L tl ctx ms [r1, r2, r3] ms1) (S : Sx B L ctx ms σ G H) (k : ∀ σ' G' H', Same G G' → Sx B L (((ctx.set i (some r1)).set j (some r2)).set l (some r3)) ms1 σ' G' H' → D.nx σ' H') : tPar3 i j l tl D σ H :=
  h σ G H S _ fun vs G1 H1 e1 S1 hal => by
    obtain ⟨v, w, z, rfl, h1, h2, h3⟩ := al3 hal
    exact ⟨v, w, z, rfl, k _ G1 H1 e1 (((S1.set h1).set h2).set h3)⟩
/-! ### tuple(), list() -/
theorem ev_tupOfL {rs : List Rp} (h : EvM B L te ctx ms (rLst rs) ms1) : EvM B L (tThen te (kTup K)) ctx ms (rTup rs) ms1 := fun σ G H S Q k =>
  h σ G H S _ fun v G1 H1 e1 S1 ⟨a, xs, ex, ha, hal⟩ => .inl ⟨a, xs, ex, SqL.of (S1.ex.lst ha), fun p hp => by
    obtain ⟨e2, S2⟩ := S1.new (o := .tup xs) hp
    exact k _ _ _ (e1.trans e2) S2 ⟨p, xs, rfl, upd_same, hal.mono e2⟩⟩
theorem ev_tupOfT {rs : List Rp} (h : EvM B L te ctx ms (rTup rs) ms1) : EvM B L (tThen te (kTup K)) ctx ms (rTup rs) ms1 := fun σ G H S Q k =>
  h σ G H S _ fun v G1 H1 e1 S1 ⟨a, xs, ex, ha, hal⟩ => .inr ⟨a, xs, ex, SqT.of (S1.ex.tup ha), by subst ex; exact k _ G1 H1 e1 S1 ⟨a, xs, rfl, ha, hal⟩⟩
theorem al_rg (n : Nat) (G : Hp) : Al ((List.range n).map rN_) (rgV 0 (n : Int)) G := by
  have e : rgV 0 (n : Int) = (List.range n).map fun i => V.int (i : Nat) := by
    unfold rgV
    have : ((n : Int) - 0).toNat = n := by omega
    rw [this]
    exact List.map_congr_left fun i _ => by rw [Int.zero_add]
  rw [e]
  exact al_of_rV (g := fun i : Nat => V.int (i : Nat)) _ G
theorem ev_tupRg {n : Nat} (h : EvM B L te ctx ms (rN_ n) ms1) (hn : n ≤ 100000) : EvM B L (tTupRg (tRg1 te)) ctx ms (rNs (List.range n)) ms1 := fun σ G H S Q k =>
  h σ G H S _ fun v G1 H1 e1 S1 ev => ⟨(n : Int), ev, RgOk.of_le (by omega) (by omega) (by omega) (by omega), fun p hp => by
    obtain ⟨e2, S2⟩ := S1.new (o := .tup (rgV 0 n)) hp
    exact k _ _ _ (e1.trans e2) S2 ⟨p, _, rfl, upd_same, al_rg n _⟩⟩
theorem ev_lstRg {n : Nat} (h : EvM B L te ctx ms (rN_ n) ms1) (hn : n ≤ 100000) : EvM B L (tLstRg (tRg1 te)) ctx ms (rLst ((List.range n).map rN_)) ms1 := fun σ G H S Q k =>
  h σ G H S _ fun v G1 H1 e1 S1 ev => ⟨(n : Int), ev, RgOk.of_le (by omega) (by omega) (by omega) (by omega), fun p hp => by
    obtain ⟨e2, S2⟩ := S1.new (o := .lst (rgV 0 n)) hp
    exact k _ _ _ (e1.trans e2) S2 ⟨p, _, rfl, upd_same, al_rg n _⟩⟩
/-! ### data, compared and shown -/
def Dat (K : Fr) (r : Rp) (d : PyData) : Prop := ∀ v L G H, ExL L G H → r.ok v G → Dp K H v d
theorem dat_int {i : Int} : Dat K (rI i) (.int i) := fun v L G H x h => by cases h; exact .int i
theorem dat_bl {i : Bool} : Dat K (rB i) (.bool i) := fun v L G H x h => by cases h; exact .bl i
theorem dat_str {i : Str} : Dat K (rS i) (.str i) := fun v L G H x h => by cases h; exact .str i
theorem dat_non : Dat K rN .none := fun v L G H x h => by cases h; exact .non
theorem dat_all {G H : Hp} {L : List Addr} (x : ExL L G H) : ∀ {rs : List Rp} {ds : List PyData} {xs : List V}, Paired (Dat K) rs ds → Al rs xs G → DpAll K H xs ds
  | _, _, _, .nil, .nil => .nil
  | _, _, _, .cons h t, .cons h' t' => .cons (h _ _ _ _ x h') (dat_all x t t')
theorem dat_tup {rs : List Rp} {ds : List PyData} (h : Paired (Dat K) rs ds) : Dat K (rTup rs) (.tuple ds) := fun v L G H x ⟨a, xs, e, ha, hal⟩ => by
  subst e
  exact .tup (SqT.of (x.tup ha)) (dat_all x h hal)
theorem dat_lst {rs : List Rp} {ds : List PyData} (h : Paired (Dat K) rs ds) : Dat K (rLst rs) (.list ds) := fun v L G H x ⟨a, xs, e, ha, hal⟩ => by
  subst e
  exact .lst (SqL.of (x.lst ha)) (dat_all x h hal)
theorem paired_map {α β γ : Type} {R : β → γ → Prop} {f : α → β} {g : α → γ} : ∀ {l : List α}, (∀ a ∈ l, R (f a) (g a)) → Paired R (l.map f) (l.map g)
  | [], _ => .nil
  | a :: l, h => .cons (h a List.mem_cons_self) (paired_map fun b hb => h b (List.mem_cons_of_mem _ hb))
def dNs (ns : List Int) : PyData := .tuple (ns.map .int)
theorem dat_ints {ns : List Int} : Dat K (rInts ns) (dNs ns) := dat_tup (paired_map fun _ _ => dat_int)
def oD : Option Int → PyData
  | none => .none
  | some i => .int i
theorem dat_opt : ∀ {o : Option Int}, Dat K (rOpt o) (oD o)
  | none => dat_non
  | some _ => dat_int
theorem rv_eqD {d e : PyData} (h1 : Dat K r1 d) (h2 : Dat K r2 e) (s1 : SeqAt.shaped d = true) (s2 : SeqAt.shaped e = true) : RvM B L (rEqD K) r1 r2 ctx ms (rB (PyData.eqv d e)) ms := fun σ G H x y S hx hy Q k =>
  ⟨d, e, h1 _ _ _ _ S.ex hx, h2 _ _ _ _ S.ex hy, s1, s2, k _ G H (Same.refl G) S rfl⟩
theorem rv_neD {d e : PyData} (h1 : Dat K r1 d) (h2 : Dat K r2 e) (s1 : SeqAt.shaped d = true) (s2 : SeqAt.shaped e = true) : RvM B L (rNeD K) r1 r2 ctx ms (rB (!PyData.eqv d e)) ms := fun σ G H x y S hx hy Q k =>
  ⟨d, e, h1 _ _ _ _ S.ex hx, h2 _ _ _ _ S.ex hy, s1, s2, k _ G H (Same.refl G) S rfl⟩
end
end K62
set_option maxHeartbeats 4000000
namespace K62
open PySem PySem.Spec PyProof.Rows L2
section
variable {B : Bs} {L : List Addr} {ctx : Ct} {ms ms1 : Ms} {K : PySem.W.Frag} {r : Rp}
theorem rc_isi {n : String} {t : Value} {b : Bool} (hty : ∀ v G H, ExL L G H → r.ok v G → TyX K H v t) (hk : PySem.W.kitOne K t (.type n) = some b) : RcM B L (rIsi K) [r, rV (.ty n)] ctx ms (rB b) ms := fun σ G H xs S hal Q k => by
  obtain ⟨v, w, rfl, h1, h2⟩ := al2 hal
  have h2 : w = .ty n := h2
  subst h2
  exact ⟨v, .ty n, t, .type n, b, rfl, .ty n, hty v G H S.ex h1, hk, k _ G H (Same.refl G) S rfl⟩
end
section
variable {P : Program} {w : World} {K : PySem.W.Frag} {mg : Str → Option Value} {base : Heap}
theorem sc_is_integer : FnScope ["value"] ["value"] (defScope s_is_integer) := ⟨rfl, rfl, rfl, by decide +kernel, rfl, by decide +kernel, by decide +kernel⟩
/-- is_integer of an int -/
abbrev spIsInt : Sp := spP (fun (_ : Int) _ => True) (fun i => [rI i]) (fun _ => rB true)
theorem cl_is_integer (T : Tx P w K mg base) : Cl P w K mg base 1 "is_integer" spIsInt := by
  obtain ⟨fd, F⟩ := T.def_ di_is_integer
  refine ⟨_, T.glo fi_glo_is_integer, F.kp, fnR_of F sc_is_integer (fun _ => rfl) (fun _ _ _ _ _ _ us hl => match us, hl with | [_], _ => rfl) fun cdv A outer s H0 vs Q E hr i L G _ k S => ?_⟩
  refine ⟨_, pss_one (ps_ret (pe_and (pe_callB call_isi (by rfl) (T.free fi_free_isinstance) (by decide +kernel) (pa_cons (pv 0) (pa_cons (pe_bltn (v := .ty "int") (by rfl) (T.free fi_free_int) boot_int rfl) pa_nil)))
    (pe_one (pe_not (pe_callB call_isi (by rfl) (T.free fi_free_isinstance) (by decide +kernel) (pa_cons (pv 0) (pa_cons (pe_bltn (v := .ty "bool") (by rfl) (T.free fi_free_bool) (by decide +kernel) rfl) pa_nil))))))), ?_⟩
  refine st_ret (ev_andV (ev_cb (ea_cons (ev_var rfl) (ea_cons ev_c ea_nil)) (rc_isi (fun v G H _ h => by cases h; exact .base (.int i)) (of_decide_eq_true (T.fact fi_kit_int_int)))) fun _ => ev_notV (ev_cb (ea_cons (ev_var rfl) (ea_cons ev_c ea_nil)) (rc_isi (fun v G H _ h => by cases h; exact .base (.int i)) (of_decide_eq_true (T.fact fi_kit_int_bool))))) S fun v G' H' e S' hv => ?_
  exact k _ _ G' H' S' v hv
end
end K62
set_option maxHeartbeats 4000000
/-! K62Au: rules that close a step by themselves. -/
namespace K62
open PySem PySem.Spec PyProof.Rows L2
section
variable {P : Program} {w : World} {K : PySem.W.Frag} {mg : Str → Option Value} {base : Heap}
theorem cls_Cutter (T : Tx P w K mg base) : Cls K (He.ga K "Cutter") := T.cls fi_cls_Cutter
theorem cls_Rule (T : Tx P w K mg base) : Cls K (He.ga K "Rule") := T.cls fi_cls_Rule
theorem cls_Page (T : Tx P w K mg base) : Cls K (He.ga K "Page") := T.cls fi_cls_Page
theorem cls_Inbox (T : Tx P w K mg base) : Cls K (He.ga K "Inbox") := T.cls fi_cls_Inbox
theorem na_parts (T : Tx P w K mg base) : NoAttr K (He.ga K "Cutter") "own_parts" := T.noat fi_noat_Cutter_own_parts
theorem na_tables (T : Tx P w K mg base) : NoAttr K (He.ga K "Cutter") "own_tables" := T.noat fi_noat_Cutter_own_tables
theorem na_whole (T : Tx P w K mg base) : NoAttr K (He.ga K "Cutter") "own_is_whole" := T.noat fi_noat_Cutter_own_is_whole
theorem na_cutter (T : Tx P w K mg base) : NoAttr K (He.ga K "Rule") "own_cutter" := T.noat fi_noat_Rule_own_cutter
theorem na_sees (T : Tx P w K mg base) : NoAttr K (He.ga K "Rule") "own_sees" := T.noat fi_noat_Rule_own_sees
theorem na_rule (T : Tx P w K mg base) : NoAttr K (He.ga K "Page") "own_rule" := T.noat fi_noat_Page_own_rule
theorem na_pmarks (T : Tx P w K mg base) : NoAttr K (He.ga K "Page") "own_marks" := T.noat fi_noat_Page_own_marks
theorem na_letters (T : Tx P w K mg base) : NoAttr K (He.ga K "Page") "own_letters" := T.noat fi_noat_Page_own_letters
theorem na_bound (T : Tx P w K mg base) : NoAttr K (He.ga K "Page") "own_bound" := T.noat fi_noat_Page_own_bound
theorem na_shown (T : Tx P w K mg base) : NoAttr K (He.ga K "Page") "own_shown" := T.noat fi_noat_Page_own_shown
theorem na_moves (T : Tx P w K mg base) : NoAttr K (He.ga K "Page") "own_moves" := T.noat fi_noat_Page_own_moves
theorem na_near (T : Tx P w K mg base) : NoAttr K (He.ga K "Page") "own_near" := T.noat fi_noat_Page_own_near
theorem na_groups (T : Tx P w K mg base) : NoAttr K (He.ga K "Page") "own_groups" := T.noat fi_noat_Page_own_groups
theorem na_pages (T : Tx P w K mg base) : NoAttr K (He.ga K "Inbox") "own_pages" := T.noat fi_noat_Inbox_own_pages
theorem na_version (T : Tx P w K mg base) : NoAttr K (He.ga K "Inbox") "own_version" := T.noat fi_noat_Inbox_own_version
theorem na_marks (T : Tx P w K mg base) : NoAttr K (He.ga K "Inbox") "own_marks" := T.noat fi_noat_Inbox_own_marks
variable {B : Bs} {L : List Addr} {ctx : Ct} {ms : Ms}
theorem isi_str (T : Tx P w K mg base) {z : Str} : RcM B L (rIsi K) [rS z, rV (.ty "str")] ctx ms (rB true) ms := rc_isi (fun v G H _ h => by cases h; exact .base (.str z)) (of_decide_eq_true (T.fact fi_kit_str_str))
theorem isi_int (T : Tx P w K mg base) {z : Int} : RcM B L (rIsi K) [rI z, rV (.ty "int")] ctx ms (rB true) ms := rc_isi (fun v G H _ h => by cases h; exact .base (.int z)) (of_decide_eq_true (T.fact fi_kit_int_int))
theorem isi_bool (T : Tx P w K mg base) {z : Bool} : RcM B L (rIsi K) [rB z, rV (.ty "bool")] ctx ms (rB true) ms := rc_isi (fun v G H _ h => by cases h; exact .base (.bl z)) (of_decide_eq_true (T.fact fi_kit_bool_bool))
theorem isi_intbool (T : Tx P w K mg base) {z : Int} : RcM B L (rIsi K) [rI z, rV (.ty "bool")] ctx ms (rB false) ms := rc_isi (fun v G H _ h => by cases h; exact .base (.int z)) (of_decide_eq_true (T.fact fi_kit_int_bool))
theorem isi_tup (T : Tx P w K mg base) {rs : List Rp} : RcM B L (rIsi K) [rTup rs, rV (.ty "tuple")] ctx ms (rB true) ms := rc_isi (fun v G H x h => by obtain ⟨a, xs, rfl, ha, _⟩ := h; exact .base (.tup (x.tup ha))) (of_decide_eq_true (T.fact fi_kit_tuple_tuple))
theorem rc_isiC' {C : Addr} {r : Rp} {t : Value} {b : Bool} (hty : ∀ v G H, ExL [] G H → r.ok v G → TyX K H v t) (hk : PySem.W.kitOne K t (.ref C) = some b) : RcM B [] (rIsi K) [r, rV (.ref C)] ctx ms (rB b) ms := fun σ G H xs S hal Q k => by
  obtain ⟨v, w, rfl, h1, h2⟩ := al2 hal
  have h2 : w = .ref C := h2
  subst h2
  exact ⟨v, .ref C, t, .ref C, b, rfl, .own C, hty v G H S.ex h1, hk, k _ G H (Same.refl G) S rfl⟩
theorem rc_isiC {C : Addr} {r : Rp} {t : Value} {b : Bool} (hty : ∀ v G H, ExL L G H → r.ok v G → TyX K H v t) (hk : PySem.W.kitOne K t (.ref C) = some b) : RcM B L (rIsi K) [r, rV (.ref C)] ctx ms (rB b) ms := fun σ G H xs S hal Q k => by
  obtain ⟨v, w, rfl, h1, h2⟩ := al2 hal
  have h2 : w = .ref C := h2
  subst h2
  exact ⟨v, .ref C, t, .ref C, b, rfl, .own C, hty v G H S.ex h1, hk, k _ G H (Same.refl G) S rfl⟩
theorem ins_ty {n : Str} {v : V} {fs : List (Str × Rp)} {G H : Hp} {L : List Addr} (c : Cls K (He.ga K n)) (hi : insB n K = true) (x : ExL L G H) (h : (rIns (He.ga K n) fs).ok v G) : TyX K H v (.ref (He.ga K n)) := by
  obtain ⟨a, dx, gs, rfl, ha, _⟩ := h
  unfold insB at hi
  obtain ⟨h1, hi⟩ := He.ba hi
  obtain ⟨h2, hi⟩ := He.ba hi
  obtain ⟨h3, h4⟩ := He.ba hi
  exact .base (.ins (x.ins ha) c (He.eqO_ok h1) (He.eqO_ok h2) (of_decide_eq_true h3) (of_decide_eq_true h4))
theorem isi_Cutter (T : Tx P w K mg base) {fs : List (Str × Rp)} : RcM B L (rIsi K) [rIns (He.ga K "Cutter") fs, rV (.ref (He.ga K "Cutter"))] ctx ms (rB true) ms :=
  rc_isiC (fun v G H x h => ins_ty (T.cls fi_cls_Cutter) (T.fact fi_ins_Cutter) x h) (of_decide_eq_true (T.fact fi_kit_Cutter))
theorem isi_Rule (T : Tx P w K mg base) {fs : List (Str × Rp)} : RcM B L (rIsi K) [rIns (He.ga K "Rule") fs, rV (.ref (He.ga K "Rule"))] ctx ms (rB true) ms :=
  rc_isiC (fun v G H x h => ins_ty (T.cls fi_cls_Rule) (T.fact fi_ins_Rule) x h) (of_decide_eq_true (T.fact fi_kit_Rule))
theorem isi_Inbox (T : Tx P w K mg base) {fs : List (Str × Rp)} : RcM B L (rIsi K) [rIns (He.ga K "Inbox") fs, rV (.ref (He.ga K "Inbox"))] ctx ms (rB true) ms :=
  rc_isiC (fun v G H x h => ins_ty (T.cls fi_cls_Inbox) (T.fact fi_ins_Inbox) x h) (of_decide_eq_true (T.fact fi_kit_Inbox))
theorem isi_none (T : Tx P w K mg base) : RcM B L (rIsi K) [rN, rV (.ref (He.ga K "Inbox"))] ctx ms (rB false) ms := rc_isiC (fun v G H x h => by cases h; exact .base .non) (of_decide_eq_true (T.fact fi_kit_none_Inbox))
theorem isi_dict (T : Tx P w K mg base) {ks : List (Int × Rp)} : RcM B [] (rIsi K) [rDct ks, rV (.ref (He.ga K "Inbox"))] ctx ms (rB false) ms := rc_isiC' (fun v G H x h => by obtain ⟨a, xs, rfl, ha, _⟩ := h; exact .base (.dK (x.dct0 ha))) (of_decide_eq_true (T.fact fi_kit_dict_Inbox))
theorem isi_known (T : Tx P w K mg base) {z : Str} : RcM B L (rIsi K) [rS z, rV (.ref (He.ga K "Known_cutters"))] ctx ms (rB false) ms := rc_isiC (fun v G H _ h => by cases h; exact .base (.str z)) (of_decide_eq_true (T.fact fi_kit_str_Known))
theorem no_rep (T : Tx P w K mg base) : True := trivial
end
/-! ### more closers -/
section
variable {K : PySem.W.Frag} {B : Bs} {L : List Addr} {ctx : Ct} {ms ms1 : Ms} {r : Rp} {rs : List Rp} {te : TE}
theorem rv_ixT0 : RvM B L (rIxT K) (rTup (r :: rs)) (rI 0) ctx ms r ms := rv_ixT (k := 0) rfl rfl
theorem rv_ixT1 {a : Rp} : RvM B L (rIxT K) (rTup (a :: r :: rs)) (rI 1) ctx ms r ms := rv_ixT (k := 1) rfl rfl
theorem rv_ixT2 {a b : Rp} : RvM B L (rIxT K) (rTup (a :: b :: r :: rs)) (rI 2) ctx ms r ms := rv_ixT (k := 2) rfl rfl
theorem rv_ixT3 {a b c : Rp} : RvM B L (rIxT K) (rTup (a :: b :: c :: r :: rs)) (rI 3) ctx ms r ms := rv_ixT (k := 3) rfl rfl
theorem rv_ixL0 : RvM B L (rIxL K) (rLst (r :: rs)) (rI 0) ctx ms r ms := rv_ixL (k := 0) rfl rfl
theorem rv_ixL1 {a : Rp} : RvM B L (rIxL K) (rLst (a :: r :: rs)) (rI 1) ctx ms r ms := rv_ixL (k := 1) rfl rfl
theorem rv_ixL2 {a b : Rp} : RvM B L (rIxL K) (rLst (a :: b :: r :: rs)) (rI 2) ctx ms r ms := rv_ixL (k := 2) rfl rfl
theorem ev_neg {i : Int} (h : EvM B L te ctx ms (rI i) ms1) : EvM B L (tUn (rU fun i => .int (-i)) te) ctx ms (rI (-i)) ms1 := fun σ G H S Q k => h σ G H S _ fun v G1 H1 e1 S1 ev => ⟨i, ev, k _ G1 H1 e1 S1 rfl⟩
/-- a slice of a list -/
def cutRs {α : Type} (xs : List α) (lo hi : Option Int) : List α := (xs.drop (HT.sIx xs.length 0 lo)).take (HT.sIx xs.length xs.length hi - HT.sIx xs.length 0 lo)
theorem cutRs_al {rs : List Rp} {xs : List V} {G : Hp} {lo hi : Option Int} (h : Al rs xs G) : Al (cutRs rs lo hi) (cutV xs lo hi) G := by
  unfold cutRs cutV
  rw [h.len]
  exact (h.drop _).take _
def EvO (B : Bs) (L : List Addr) (tp : L2.St → Hp → (Option Int → Hp → Prop) → Prop) (ctx : Ct) (ms : Ms) (o : Option Int) (ms' : Ms) : Prop := ∀ (σ : L2.St) (G H : Hp), Sx B L ctx ms σ G H → ∀ Q : Option Int → Hp → Prop, (∀ G' H', Same G G' → Sx B L ctx ms' σ G' H' → Q o H') → tp σ H Q
theorem eo_none : EvO B L tNoPart ctx ms none ms := fun σ G H S Q k => k G H (Same.refl G) S
theorem eo_some {i : Int} (h : EvM B L te ctx ms (rI i) ms1) : EvO B L (tPart te) ctx ms (some i) ms1 := fun σ G H S Q k => h σ G H S _ fun v G1 H1 e1 S1 ev => ⟨i, ev, k G1 H1 e1 S1⟩
variable {ms2 ms3 : Ms} {tl th : L2.St → Hp → (Option Int → Hp → Prop) → Prop} {lo hi : Option Int}
theorem ev_slL (h : EvM B L te ctx ms (rLst rs) ms1) (hl : EvO B L tl ctx ms1 lo ms2) (hh : EvO B L th ctx ms2 hi ms3) : EvM B L (tSl (rSlL K) te tl th) ctx ms (rLst (cutRs rs lo hi)) ms3 := fun σ G H S Q k =>
  h σ G H S _ fun v G1 H1 e1 S1 ⟨a, xs, ex, ha, hal⟩ => hl σ G1 H1 S1 _ fun G2 H2 e2 S2 => hh σ G2 H2 S2 _ fun G3 H3 e3 S3 => ⟨a, xs, ex, SqL.of (S3.ex.lst (e3 _ _ (e2 _ _ ha))), fun p hp => by
    obtain ⟨e4, S4⟩ := S3.new (o := .lst (cutV xs lo hi)) hp
    exact k _ _ _ (e1.trans (e2.trans (e3.trans e4))) S4 ⟨p, _, rfl, upd_same, cutRs_al (hal.mono (e2.trans (e3.trans e4)))⟩⟩
theorem ev_slT (h : EvM B L te ctx ms (rTup rs) ms1) (hl : EvO B L tl ctx ms1 lo ms2) (hh : EvO B L th ctx ms2 hi ms3) : EvM B L (tSl (rSlA K) te tl th) ctx ms (rTup (cutRs rs lo hi)) ms3 := fun σ G H S Q k =>
  h σ G H S _ fun v G1 H1 e1 S1 ⟨a, xs, ex, ha, hal⟩ => hl σ G1 H1 S1 _ fun G2 H2 e2 S2 => hh σ G2 H2 S2 _ fun G3 H3 e3 S3 => ⟨a, xs, ex, SqT.of (S3.ex.tup (e3 _ _ (e2 _ _ ha))), fun ⟨z1, z2⟩ => by
    refine k _ G3 H3 (e1.trans (e2.trans e3)) S3 ⟨a, xs, rfl, e3 _ _ (e2 _ _ ha), ?_⟩
    have z : cutRs rs lo hi = rs := by
      unfold cutRs
      rw [hal.len, z1, z2, List.drop_zero, Nat.sub_zero]
      exact List.take_of_length_le (Nat.le_of_eq hal.len)
    rw [z]
    exact hal.mono (e2.trans e3), fun _ p hp => by
    obtain ⟨e4, S4⟩ := S3.new (o := .tup (cutV xs lo hi)) hp
    exact k _ _ _ (e1.trans (e2.trans (e3.trans e4))) S4 ⟨p, _, rfl, upd_same, cutRs_al (hal.mono (e2.trans (e3.trans e4)))⟩⟩
theorem cutRs_from {α : Type} {xs : List α} {k : Nat} (h : k ≤ xs.length) : cutRs xs (some (k : Int)) none = xs.drop k := by
  unfold cutRs
  rw [HT.sIx_nat, HT.sIx_none, Nat.min_eq_left h]
  exact List.take_of_length_le (by rw [List.length_drop]; exact Nat.le_refl _)
theorem cutRs_to {α : Type} {xs : List α} {k : Nat} (h : k ≤ xs.length) : cutRs xs none (some (k : Int)) = xs.take k := by
  unfold cutRs
  rw [HT.sIx_nat, HT.sIx_none, Nat.min_eq_left h]
  rfl
theorem cutRs_both {α : Type} {xs : List α} {j k : Nat} (hj : j ≤ xs.length) (h : k ≤ xs.length) : cutRs xs (some (j : Int)) (some (k : Int)) = (xs.drop j).take (k - j) := by
  unfold cutRs
  rw [HT.sIx_nat, HT.sIx_nat, Nat.min_eq_left h, Nat.min_eq_left hj]
end
end K62
set_option maxHeartbeats 4000000
/-! K62Av: texts, lists, sorting: what the readings give. -/
namespace K62
open PySem PySem.Spec PyProof.Rows L2
section
variable {K : PySem.W.Frag} {B : Bs} {L : List Addr} {ctx : Ct} {ms ms1 ms2 ms3 : Ms} {r r1 r2 : Rp} {rs ss : List Rp} {te tb : TE} {tl : TA}
theorem ev_split {a b : Str} (h : EvM B L te ctx ms (rS a) ms1) (hb : EvM B L tb ctx ms1 (rS b) ms2) (h0 : (b.length == 0) = false) (ha : a.length ≤ 1000) :
    EvM B L (tM1 (fun x xs H Q => ∃ a b, x = .str a ∧ xs = [.str b] ∧ (b.length == 0) = false ∧ a.length + 2 ≤ sizeLine ∧ rNewStrs (Txt.split a b) H Q) te tb) ctx ms (rLst ((Txt.split a b).map rS)) ms2 := fun σ G H S Q k =>
  h σ G H S _ fun v G1 H1 e1 S1 ev => ⟨⟨a, ev⟩, hb σ G1 H1 S1 _ fun y G2 H2 e2 S2 ey => by
    have ev : v = .str a := ev
    have ey : y = .str b := ey
    subst ev ey
    refine ⟨a, b, rfl, rfl, h0, line_of (by omega), fun p hp => ?_⟩
    obtain ⟨e3, S3⟩ := S2.new (o := .lst ((Txt.split a b).map V.str)) hp
    exact k _ _ _ (e1.trans (e2.trans e3)) S3 ⟨p, _, rfl, upd_same, al_of_rV _ _⟩⟩
theorem ev_join {a : Str} {ys : List Str} (h : EvM B L te ctx ms (rS a) ms1) (hb : EvM B L tb ctx ms1 (rLst (ys.map rS)) ms2) (hl : (ys.map (·.length)).sum + ys.length * a.length ≤ 100000) :
    EvM B L (tM1 (fun x xs H Q => ∃ a p, ∃ ys : List Str, x = .str a ∧ xs = [.ref p] ∧ (SqL K H p (ys.map V.str) ∨ SqT K H p (ys.map V.str)) ∧ (ys.map (·.length)).sum + ys.length * a.length ≤ 16777216 ∧ Q (.str (Txt.join a ys)) H) te tb) ctx ms (rS (Txt.join a ys)) ms2 := fun σ G H S Q k =>
  h σ G H S _ fun v G1 H1 e1 S1 ev => ⟨⟨a, ev⟩, hb σ G1 H1 S1 _ fun y G2 H2 e2 S2 ⟨p, xs, ey, hp, hal⟩ => by
    have ev : v = .str a := ev
    subst ev ey
    have e : xs = ys.map V.str := al_rV hal
    subst e
    exact ⟨a, p, ys, rfl, rfl, .inl (SqL.of (S2.ex.lst hp)), by omega, k _ G2 H2 (e1.trans e2) S2 rfl⟩⟩
theorem rv_addS {a b : Str} (h : a.length + b.length ≤ 100000) : RvM B L (fun x y H Q => ∃ i j, x = .str i ∧ y = .str j ∧ i.length + j.length ≤ sizeLine ∧ Q (.str (i ++ j)) H) (rS a) (rS b) ctx ms (rS (a ++ b)) ms := rv_val fun _ _ q => ⟨a, b, rfl, rfl, line_of h, q⟩
theorem rv_inSign {c : Nat} {z : Str} : RvM B L (fun x y H Q => ∃ (c : Nat) (z : Str), x = .str ⟨#[c]⟩ ∧ y = .str z ∧ Q (.bl (decide (c ∈ z.cps.toList))) H) (rS ⟨#[c]⟩) (rS z) ctx ms (rB (decide (c ∈ z.cps.toList))) ms := rv_val fun _ _ q => ⟨c, z, rfl, rfl, q⟩
theorem inV_ints (i : Int) : ∀ ns : List Int, inV (.int i) (ns.map V.int) = decide (i ∈ ns)
  | [] => rfl
  | n :: ns => by
    show (eqV (.int n) (.int i) || inV (.int i) (ns.map V.int)) = _
    rw [inV_ints i ns]
    show ((n == i) || _) = _
    by_cases e : n = i
    · subst e; simp
    · have : (n == i) = false := beq_eq_false_iff_ne.mpr e
      rw [this, Bool.false_or]
      exact decide_eq_decide.mpr ⟨fun h => List.mem_cons_of_mem _ h, fun h => (List.mem_cons.mp h).resolve_left fun z => e z.symm⟩
theorem flat_ints : ∀ ns : List Int, (ns.map V.int).all flatV = true
  | [] => rfl
  | _ :: ns => flat_ints ns
theorem rv_inT {i : Int} {ns : List Int} : RvM B L (rIn K false) (rI i) (rInts ns) ctx ms (rB (decide (i ∈ ns))) ms := fun σ G H x y S hx ⟨a, xs, ey, ha, hal⟩ Q k => by
  have hx : x = .int i := hx
  have e : xs = ns.map V.int := al_rV hal
  subst hx ey e
  exact ⟨a, _, rfl, .inr (SqT.of (S.ex.tup ha)), rfl, flat_ints ns, k _ G H (Same.refl G) S (by show V.bl _ = V.bl _; rw [inV_ints]; rfl)⟩
theorem rv_inL {i : Int} {ns : List Int} : RvM B L (rIn K false) (rI i) (rLst (ns.map rI)) ctx ms (rB (decide (i ∈ ns))) ms := fun σ G H x y S hx ⟨a, xs, ey, ha, hal⟩ Q k => by
  have hx : x = .int i := hx
  have e : xs = ns.map V.int := al_rV hal
  subst hx ey e
  exact ⟨a, _, rfl, .inl (SqL.of (S.ex.lst ha)), rfl, flat_ints ns, k _ G H (Same.refl G) S (by show V.bl _ = V.bl _; rw [inV_ints]; rfl)⟩
theorem rv_ninL {i : Int} {ns : List Int} : RvM B L (rIn K true) (rI i) (rLst (ns.map rI)) ctx ms (rB (!decide (i ∈ ns))) ms := fun σ G H x y S hx ⟨a, xs, ey, ha, hal⟩ Q k => by
  have hx : x = .int i := hx
  have e : xs = ns.map V.int := al_rV hal
  subst hx ey e
  exact ⟨a, _, rfl, .inl (SqL.of (S.ex.lst ha)), rfl, flat_ints ns, k _ G H (Same.refl G) S (by show V.bl _ = V.bl _; rw [inV_ints]; rfl)⟩
theorem rv_ninM {i : Int} {ns : List Int} {a : Addr} {j : Nat} (hj : ms[j]? = some (a, .lst (ns.map rI))) : RvM B L (rIn K true) (rI i) (rV (.ref a)) ctx ms (rB (!decide (i ∈ ns))) ms := fun σ G H x y S hx hy Q k => by
  have c : CAt a G H (.lst (ns.map rI)) := S.mem.at_ _ (List.mem_of_getElem? hj)
  have hx : x = .int i := hx
  have hy : y = .ref a := hy
  subst hx hy
  cases c with
  | @lst _ xs ha hal =>
    have e : xs = ns.map V.int := al_rV hal
    subst e
    exact ⟨a, _, rfl, .inl (SqL.of ha), rfl, flat_ints ns, k _ G H (Same.refl G) S (by show V.bl _ = V.bl _; rw [inV_ints]; rfl)⟩
theorem rv_cat {rs ss : List Rp} (h : rs.length + ss.length ≤ 100000) : RvM B L rCat (rLst rs) (rLst ss) ctx ms (rLst (rs ++ ss)) ms := fun σ G H x y S ⟨a, xs, ex, ha, hal⟩ ⟨b, ys, ey, hb, hbl⟩ Q k =>
  ⟨a, b, xs, ys, ex, ey, S.ex.lst ha, S.ex.lst hb, line_of (by rw [← hal.len, ← hbl.len]; exact h), fun p hp => by
    obtain ⟨e2, S2⟩ := S.new (o := .lst (xs ++ ys)) hp
    exact k _ _ _ e2 S2 ⟨p, _, rfl, upd_same, (hal.mono e2).app (hbl.mono e2)⟩⟩
/-! ### cells -/
theorem ev_append {a : Addr} {j : Nat} (h : EvM B L te ctx ms (rV (.ref a)) ms1) (ha : EvA B L tl ctx ms1 [r] ms2) (hj1 : ∃ (j0 : Nat) (c : List Rp), ms1[j0]? = some (a, .lst c)) (hj : ms2[j]? = some (a, .lst rs)) (hl : rs.length < 100000) : EvM B L (tBM K "list" rAppend te tl) ctx ms rN (ms2.set j (a, .lst (rs ++ [r]))) := fun σ G H S Q k =>
  h σ G H S _ fun v G1 H1 e1 S1 ev => by
    have ev : v = .ref a := ev
    subst ev
    obtain ⟨j0, c0, h0⟩ := hj1
    have c1 : CAt a G1 H1 (.lst c0) := S1.mem.at_ _ (List.mem_of_getElem? h0)
    cases c1 with
    | @lst _ ys hy _ =>
      refine ⟨.inl ⟨rfl, ys, SqL.of hy⟩, ha σ G1 H1 S1 _ fun vs G2 H2 e2 S2 hal => ?_⟩
      obtain ⟨w, rfl, hw⟩ := al1 hal
      have c2 : CAt a G2 H2 (.lst rs) := S2.mem.at_ _ (List.mem_of_getElem? hj)
      cases c2 with
      | @lst _ xs hx hxl =>
        exact ⟨a, xs, w, rfl, rfl, hx, line_lt (by rw [← hxl.len]; exact hl), k _ G2 _ (e1.trans e2) (S2.put hj (.lst upd_same (hxl.app (.cons hw .nil)))) rfl⟩
theorem ev_pop {a : Addr} {j : Nat} (h : EvM B L te ctx ms (rV (.ref a)) ms1) (hj : ms1[j]? = some (a, .lst (rs ++ [r]))) : EvM B L (tBM0 K "list" rPop te) ctx ms r (ms1.set j (a, .lst rs)) := fun σ G H S Q k =>
  h σ G H S _ fun v G1 H1 e1 S1 ev => by
    have ev : v = .ref a := ev
    subst ev
    have c1 : CAt a G1 H1 (.lst (rs ++ [r])) := S1.mem.at_ _ (List.mem_of_getElem? hj)
    cases c1 with
    | @lst _ xs hx hxl =>
      have hl : xs.length = rs.length + 1 := by rw [← hxl.len, List.length_append]; rfl
      obtain ⟨y, hy, hr⟩ := hxl.get (i := rs.length) (r := r) (by simp)
      refine ⟨.inl ⟨rfl, xs, SqL.of hx⟩, a, xs, y, rfl, rfl, hx, by rw [hl]; exact hy, k y G1 _ e1 (S1.put hj (.lst upd_same ?_)) hr⟩
      have z := hxl.take rs.length
      rw [List.take_left] at z
      rw [List.dropLast_eq_take, hl]
      exact z
theorem ev_popAt {a : Addr} {j i : Nat} (h : EvM B L te ctx ms (rV (.ref a)) ms1) (ha : EvA B L tl ctx ms1 [rEx (fun k : Int => 0 ≤ k ∧ k < rs.length) rI] ms2) (hj1 : ∃ (j0 : Nat) (c : List Rp), ms1[j0]? = some (a, .lst c)) (hj : ms2[j]? = some (a, .lst rs)) (hl : rs.length ≤ 1000) (σ : L2.St) (G H : Hp) (S : Sx B L ctx ms σ G H) (Q : VK)
    (k : ∀ (i : Nat) (r : Rp), rs[i]? = some r → ∀ v G' H', Same G G' → Sx B L ctx (ms2.set j (a, .lst (rs.eraseIdx i))) σ G' H' → r.ok v G' → Q v H') : tBM K "list" rPopAt te tl σ H Q :=
  h σ G H S _ fun v G1 H1 e1 S1 ev => by
    have ev : v = .ref a := ev
    subst ev
    obtain ⟨j0, c0, h0⟩ := hj1
    have c1 : CAt a G1 H1 (.lst c0) := S1.mem.at_ _ (List.mem_of_getElem? h0)
    cases c1 with
    | @lst _ ys hy _ =>
      refine ⟨.inl ⟨rfl, ys, SqL.of hy⟩, ha σ G1 H1 S1 _ fun vs G2 H2 e2 S2 hal => ?_⟩
      obtain ⟨w, rfl, n, ⟨n0, n1⟩, hw⟩ := al1 hal
      have hw : w = .int n := hw
      subst hw
      have c2 : CAt a G2 H2 (.lst rs) := S2.mem.at_ _ (List.mem_of_getElem? hj)
      cases c2 with
      | @lst _ xs hx hxl =>
        have hlen := hxl.len
        have hi : n.toNat < rs.length := by omega
        have hr : rs[n.toNat]? = some rs[n.toNat] := List.getElem?_eq_getElem hi
        obtain ⟨y, hy2, hry⟩ := hxl.get hr
        have en : n = (n.toNat : Int) := by omega
        refine ⟨a, xs, n, n.toNat, y, rfl, rfl, hx, by omega, by omega, ?_, hy2, k n.toNat _ hr y G2 _ (e1.trans e2) (S2.put hj (.lst upd_same (hxl.eraseIdx _))) hry⟩
        have e4 : xs.length = rs.length := hlen.symm
        unfold seqIndex?
        have h3 : ¬ n < 0 := by omega
        simp only [h3, if_false]
        rw [if_pos]
        simp
        omega
/-! ### built-in functions -/
theorem rc_abs {i : Int} : RcM B L (fun xs H Q => ∃ i, xs = [.int i] ∧ Q (.int (if i < 0 then -i else i)) H) [rI i] ctx ms (rI (if i < 0 then -i else i)) ms := rc_val fun H Q q => ⟨i, rfl, q⟩
theorem rc_max {i j : Int} : RcM B L (fun xs H Q => ∃ i j, xs = [.int i, .int j] ∧ Q (.int (if j > i then j else i)) H) [rI i, rI j] ctx ms (rI (if j > i then j else i)) ms := fun σ G H xs S hal Q k => by
  obtain ⟨v, w, rfl, h1, h2⟩ := al2 hal
  have h1 : v = .int i := h1
  have h2 : w = .int j := h2
  subst h1 h2
  exact ⟨i, j, rfl, k _ G H (Same.refl G) S rfl⟩
theorem rc_min {i j : Int} : RcM B L (fun xs H Q => ∃ i j, xs = [.int i, .int j] ∧ Q (.int (if j < i then j else i)) H) [rI i, rI j] ctx ms (rI (if j < i then j else i)) ms := fun σ G H xs S hal Q k => by
  obtain ⟨v, w, rfl, h1, h2⟩ := al2 hal
  have h1 : v = .int i := h1
  have h2 : w = .int j := h2
  subst h1 h2
  exact ⟨i, j, rfl, k _ G H (Same.refl G) S rfl⟩
theorem rc_int {i : Int} : RcM B L (fun xs H Q => (∃ i, xs = [.int i] ∧ Q (.int i) H) ∨ ∃ k, xs = [.bl k] ∧ Q (.int (if k then 1 else 0)) H) [rI i] ctx ms (rI i) ms := rc_val fun H Q q => .inl ⟨i, rfl, q⟩
theorem rc_intB {b : Bool} : RcM B L (fun xs H Q => (∃ i, xs = [.int i] ∧ Q (.int i) H) ∨ ∃ k, xs = [.bl k] ∧ Q (.int (if k then 1 else 0)) H) [rB b] ctx ms (rI (if b then 1 else 0)) ms := rc_val fun H Q q => .inr ⟨b, rfl, q⟩
/-- all([..]) -/
theorem ev_all {α : Type} {ls : List α} {g : α → Bool} (h : EvA B L tl ctx ms [rLst (ls.map fun a => rB (g a))] ms1) : EvM B L (tCB (fun vs H Q => ∃ (a : Addr) (bs : List Bool), vs = [V.ref a] ∧ SqL K H a (bs.map V.bl) ∧ Q (.bl (bs.all id)) H) tl) ctx ms (rB (ls.all g)) ms1 := by
  have e : (ls.map fun a => rB (g a)) = (ls.map g).map rB := by rw [List.map_map]; rfl
  rw [e] at h
  have z := ev_cb h (rc_all (K := K))
  have e2 : (ls.map g).all id = ls.all g := by rw [List.all_map]; rfl
  rw [e2] at z
  exact z
/-- sorted(ints) -/
def rSorted_ (ns : List Int) : Rp := rEx (fun ns' : List Int => ns'.Perm ns ∧ ns'.Pairwise (· ≤ ·)) (fun ns' => rLst (ns'.map rI))
theorem rc_sortedL {ns : List Int} : RcM B L (rSortedI K) [rLst (ns.map rI)] ctx ms (rSorted_ ns) ms := fun σ G H xs S hal Q k => by
  obtain ⟨v, rfl, a, ys, e, ha, hal2⟩ := al1 hal
  subst e
  have e2 : ys = ns.map V.int := al_rV hal2
  subst e2
  refine ⟨a, ns, rfl, SqL.of (S.ex.lst ha), fun ns' p hp ho hn => ?_⟩
  obtain ⟨e3, S3⟩ := S.new (o := .lst (ns'.map V.int)) hn
  exact k _ _ _ e3 S3 ⟨ns', ⟨hp, ho⟩, p, _, rfl, upd_same, al_of_rV _ _⟩
theorem rc_sortedM {ns : List Int} {a : Addr} {j : Nat} (hj : ms[j]? = some (a, .lst (ns.map rI))) : RcM B L (rSortedI K) [rV (.ref a)] ctx ms (rSorted_ ns) ms := fun σ G H xs S hal Q k => by
  obtain ⟨v, rfl, e⟩ := al1 hal
  have e : v = .ref a := e
  subst e
  have c : CAt a G H (.lst (ns.map rI)) := S.mem.at_ _ (List.mem_of_getElem? hj)
  cases c with
  | @lst _ ys ha hal2 =>
    have e2 : ys = ns.map V.int := al_rV hal2
    subst e2
    refine ⟨a, ns, rfl, SqL.of ha, fun ns' p hp ho hn => ?_⟩
    obtain ⟨e3, S3⟩ := S.new (o := .lst (ns'.map V.int)) hn
    exact k _ _ _ e3 S3 ⟨ns', ⟨hp, ho⟩, p, _, rfl, upd_same, al_of_rV _ _⟩
end
end K62
set_option maxHeartbeats 4000000
/-! K62Pr: promises of a class's names from the text's facts; calls of methods read. -/
namespace K62
open PySem PySem.Spec PyProof.Rows L2
section
variable {P : Program} {w : World} {K : PySem.W.Frag} {mg : Str → Option Value} {base : Heap}
theorem prop_of {C m : Str} (h : propB C m K = true) : PropOf K (He.ga K C) m (mtAd C m K) (propAd C m K) := by
  unfold propB at h
  obtain ⟨h1, h⟩ := He.ba h
  obtain ⟨h2, h⟩ := He.ba h
  obtain ⟨h3, h4⟩ := He.ba h
  refine ⟨He.eqO_ok h1, He.eqO_ok h2, of_decide_eq_true h3, ?_⟩
  unfold propAd He5.wf
  unfold mtAd at *
  split at h4
  · rename_i f rest e
    exact ⟨rest, by rw [e]⟩
  · cases h4
theorem own_of {C m : Str} (h : ownB C m K = true) : PySem.W.findIn K (.ref (He.ga K C)) m = some (some (.ref (mtAd C m K))) ∧ PySem.W.isFn K (.ref (mtAd C m K)) = true ∧ PySem.W.fnIn K (mtAd C m K) = true := by
  unfold ownB at h
  obtain ⟨h1, h⟩ := He.ba h
  obtain ⟨h2, h3⟩ := He.ba h
  exact ⟨He.eqO_ok h1, h2, h3⟩
theorem cm_of {C m : Str} (h : cmB C m K = true) : ClX.CRead K (He.ga K C) (.type "type") ∧ ClX.CMet K (He.ga K C) (.type "type") m (mtAd C m K) (cmAd C m K) := by
  unfold cmB at h
  obtain ⟨h1, h⟩ := He.ba h
  obtain ⟨h2, h⟩ := He.ba h
  obtain ⟨h3, h4⟩ := He.ba h
  exact ⟨⟨h3, He.eqO_ok h4⟩, He5.cmet_of h1 h2⟩
theorem bm_of {C m : Str} (hm : Meth K (He.ga K C) m (mtAd C m K)) (h : bmB C m K = true) (hc : PySem.W.copiedNames.contains m = false) : BMeth K (He.ga K C) m (mtAd C m K) := by
  unfold bmB at h
  obtain ⟨h1, h⟩ := He.ba h
  obtain ⟨h2, h3⟩ := He.ba h
  exact ⟨hm, He.eqO_ok h1, of_decide_eq_true h2, hc, h3⟩
theorem ne_of_ {C : Str} (h : neB C K = true) : PySem.W.findIn K (.ref (He.ga K C)) "__ne__" = some (some (.builtin "object.__ne__")) := He.eqO_ok h
theorem mro_of {C : Str} (h : insB C K = true) : PySem.W.mroIn K (He.ga K C) (.type "object") = some true := by
  unfold insB at h
  obtain ⟨h1, h⟩ := He.ba h
  obtain ⟨h2, h⟩ := He.ba h
  obtain ⟨h3, h4⟩ := He.ba h
  exact of_decide_eq_true h4
end
section
variable {B : Bs} {L : List Addr} {ctx : Ct} {ms ms1 ms2 : Ms} {te ta : TE} {tl : TA} {r res : Rp} {C dx a : Addr} {fs : List (Str × Rp)} {m : Str} {E : XK} {α : Type} {pre : α → List Addr → Prop} {ar : α → List Rp} {mi mo : α → Ms} {rs : α → Rp}
/-- a method of a pure instance -/
theorem ev_mt {ls : List Rp} (x : α) (h : EvM B L ta ctx ms (rIns C fs) ms1) (hf : fs.lookup m = none) (ha : EvA B L tl ctx ms1 ls ms2) (hx : ar x = rIns C fs :: ls) (hp : pre x L) : EvM B L (tMethR C m (spP pre ar rs) E ta tl) ctx ms (rs x) ms2 := fun σ G H S Q k =>
  h σ G H S _ fun v G1 H1 e1 S1 hv => by
    obtain ⟨b, dx, gs, ev, hb, hal⟩ := id hv
    refine ⟨b, dx, gs, ev, S1.ex.ins hb, hal.look0 hf, ha σ G1 H1 S1 _ fun vs G2 H2 e2 S2 q2 => ⟨x, L, hp, pr_use0 S2 ?_ fun v G3 H3 e3 S3 q3 => k v G3 H3 (e1.trans (e2.trans e3)) S3 q3⟩⟩
    rw [hx]
    exact .cons ((rIns C fs).mono e2 hv) q2
/-- a method of a cell -/
theorem ev_mtM {ls : List Rp} {fs' : List (Str × Rp)} (x : α) (j1 j : Nat) (h : EvM B L ta ctx ms (rV (.ref a)) ms1) (hj1 : ms1[j1]? = some (a, .ins C dx fs)) (hf : fs.lookup m = none) (ha : EvA B L tl ctx ms1 ls ms2) (hj : ms2[j]? = some (a, .ins C dx fs)) (hx : ar x = rV (.ref a) :: ls) (hp : pre x L)
    (hi : mi x = [(a, .ins C dx fs)]) (ho : mo x = [(a, .ins C dx fs')]) : EvM B L (tMethR C m (spF pre ar mi mo rs) E ta tl) ctx ms (rs x) (ms2.set j (a, .ins C dx fs')) := fun σ G H S Q k =>
  h σ G H S _ fun v G1 H1 e1 S1 ev => by
    have c : CAt a G1 H1 (.ins C dx fs) := S1.mem.at_ _ (List.mem_of_getElem? hj1)
    cases c with
    | @ins _ _ _ gs hb hal =>
      refine ⟨a, dx, gs, ev, hb, hal.look0 hf, ha σ G1 H1 S1 _ fun vs G2 H2 e2 S2 q2 => ⟨x, L, hp, ?_⟩⟩
      rw [hi, ho]
      refine pr_use1 hj S2 ?_ fun v G3 H3 e3 S3 q3 => k v G3 H3 (e1.trans (e2.trans e3)) S3 q3
      rw [hx]
      exact .cons ev q2
/-- .. left as it is -/
theorem ev_mtM0 {ls : List Rp} (x : α) (j1 j : Nat) (h : EvM B L ta ctx ms (rV (.ref a)) ms1) (hj1 : ms1[j1]? = some (a, .ins C dx fs)) (hf : fs.lookup m = none) (ha : EvA B L tl ctx ms1 ls ms2) (hj : ms2[j]? = some (a, .ins C dx fs)) (hx : ar x = rV (.ref a) :: ls) (hp : pre x L)
    (hi : mi x = [(a, .ins C dx fs)]) (ho : mo x = [(a, .ins C dx fs)]) : EvM B L (tMethR C m (spF pre ar mi mo rs) E ta tl) ctx ms (rs x) ms2 := by
  have z := ev_mtM (E := E) (rs := rs) x j1 j h hj1 hf ha hj hx hp hi ho
  rw [set_same hj] at z
  exact z
/-- a property -/
theorem ev_pr (x : α) (h : EvM B L ta ctx ms (rIns C fs) ms1) (hx : ar x = [rIns C fs]) (hp : pre x L) : EvM B L (tPrR C (spP pre ar rs) E ta) ctx ms (rs x) ms1 := fun σ G H S Q k =>
  h σ G H S _ fun v G1 H1 e1 S1 hv => by
    obtain ⟨b, dx, gs, ev, hb, hal⟩ := id hv
    refine ⟨b, dx, gs, ev, S1.ex.ins hb, x, L, hp, pr_use0 S1 ?_ fun v G3 H3 e3 S3 q3 => k v G3 H3 (e1.trans e3) S3 q3⟩
    rw [hx]
    subst ev
    exact .cons hv .nil
theorem ev_prM (x : α) (j : Nat) (h : EvM B L ta ctx ms (rV (.ref a)) ms1) (hj : ms1[j]? = some (a, .ins C dx fs)) (hx : ar x = [rV (.ref a)]) (hp : pre x L) (hi : mi x = [(a, .ins C dx fs)]) (ho : mo x = [(a, .ins C dx fs)]) : EvM B L (tPrR C (spF pre ar mi mo rs) E ta) ctx ms (rs x) ms1 := fun σ G H S Q k =>
  h σ G H S _ fun v G1 H1 e1 S1 ev => by
    have c : CAt a G1 H1 (.ins C dx fs) := S1.mem.at_ _ (List.mem_of_getElem? hj)
    cases c with
    | @ins _ _ _ gs hb hal =>
      refine ⟨a, dx, gs, ev, hb, x, L, hp, ?_⟩
      rw [hi, ho]
      refine pr_use1 hj S1 ?_ fun v G3 H3 e3 S3 q3 => k v G3 H3 (e1.trans e3) (by rw [set_same hj] at S3; exact S3) q3
      rw [hx]
      have ev : v = .ref a := ev
      subst ev
      exact .cons rfl .nil
/-- what an __init__ promises: the new instance with these fields -/
def spI {α : Type} (pre : α → List Addr → Prop) (C : Addr) (ar : α → List Rp) (fo : α → List (Str × Rp)) : Sp :=
  spF (fun x : α × Addr × Addr => pre x.1) (fun x => rV (.ref x.2.1) :: ar x.1) (fun x => [(x.2.1, .ins C x.2.2 [])]) (fun x => [(x.2.1, .ins C x.2.2 (fo x.1))]) (fun _ => rN)
/-- the making of a pure instance -/
theorem make_use {x : α} {fo : α → List (Str × Rp)} {vs : List V} {σ : L2.St} {G H : Hp} {Q : VK} (S : Sx B L ctx ms σ G H) (hal : Al (ar x) vs G) (hp : pre x L) (k : ∀ v G' H', Same G G' → Sx B L ctx ms σ G' H' → (rIns C (fo x)).ok v G' → Q v H') :
    ∀ y dx, H y = Option.none → H dx = Option.none → dx ≠ y → spI pre C ar fo (V.ref y :: vs) (upd (upd H dx (.own y)) y (.ins C dx [])) (fun v H2 => v = .non ∧ Q (.ref y) H2) E := fun y dx hy hdx hne => by
  -- the instance's own dict goes into the pure world; the instance is a cell
  obtain ⟨e1, S1⟩ := S.new (o := .own y) hdx
  have hy1 : upd H dx (.own y) y = none := by rw [upd_ne (Ne.symm hne)]; exact hy
  have S2 := S1.newM (c := .ins C dx []) hy1 (.ins (gs := []) upd_same .nil)
  have S2' := S2.re
  refine ⟨(x, y, dx), L, hp, ?_⟩
  refine pr_use1 (j := 0) (c' := .ins C dx (fo x)) rfl S2' (.cons rfl (hal.mono e1)) fun v G' H' e S3 hv => ⟨hv, ?_⟩
  -- frozen
  have S4 : Sx ⟨ms.map (·.1), G, H⟩ L ctx ((y, .ins C dx (fo x)) :: ms) σ G' H' := by
    have base : Sx ⟨ms.map (·.1), G, H⟩ L ctx ((y, .ins C dx []) :: ms) σ (upd G dx (.own y)) (upd (upd H dx (.own y)) y (.ins C dx [])) := by
      obtain ⟨_, T1⟩ := S.re.new (o := .own y) hdx
      exact T1.newM (c := .ins C dx []) hy1 (.ins (gs := []) upd_same .nil)
    exact base.un S3
  obtain ⟨G2, e2, S5, hr⟩ := S4.freeze hy
  exact k (.ref y) G2 H' (e1.trans (e.trans e2)) (S.un S5) hr
theorem ev_mk {x : α} {fo : α → List (Str × Rp)} (h : EvA B L tl ctx ms (ar x) ms1) (hp : pre x L) : EvM B L (StX.tMakeR C (spI pre C ar fo) E tl) ctx ms (rIns C (fo x)) ms1 := fun σ G H S Q k =>
  h σ G H S _ fun vs G1 H1 e1 S1 hal => make_use S1 hal hp fun v G2 H2 e2 S2 hv => k v G2 H2 (e1.trans e2) S2 hv
theorem ev_mkV {x : α} {fo : α → List (Str × Rp)} {tf : TE} (hf : EvM B L tf ctx ms (rV (.ref C)) ms1) (h : EvA B L tl ctx ms1 (ar x) ms2) (hp : pre x L) : EvM B L (tMakeV C (spI pre C ar fo) E tf tl) ctx ms (rIns C (fo x)) ms2 := fun σ G H S Q k =>
  hf σ G H S _ fun y G0 H0 e0 S0 ey => ⟨ey, h σ G0 H0 S0 _ fun vs G1 H1 e1 S1 hal => make_use S1 hal hp fun v G2 H2 e2 S2 hv => k v G2 H2 (e0.trans (e1.trans e2)) S2 hv⟩
/-- a classmethod -/
theorem ev_cm {x : α} (h : EvA B L tl ctx ms ((ar x).tail) ms1) (hx : ar x = rV (.ref C) :: (ar x).tail) (hp : pre x L) : EvM B L (ClX.tCMeth C (spP pre ar rs) E (tC (.ref C)) tl) ctx ms (rs x) ms1 := fun σ G H S Q k =>
  ⟨rfl, h σ G H S _ fun vs G1 H1 e1 S1 hal => ⟨x, L, hp, pr_use0 S1 (by rw [hx]; exact .cons rfl hal) fun v G2 H2 e2 S2 hv => k v G2 H2 (e1.trans e2) S2 hv⟩⟩
end
end K62
set_option maxHeartbeats 4000000
/-! K62Rk: rules with the text's facts K by name. -/
namespace K62
open PySem PySem.Spec PyProof.Rows L2
section
variable {X : Cx} {K : PySem.W.Frag} {e o a b tg : Expr} {es : List Expr} {f name : Str} {pos apos cpos p : Pos} {te ta tb to : TE} {t : TA} {T id : String}
theorem op_inK (hK : X.K = K := by rfl) : OpR X (compareOp .In) (rIn K false) := by subst hK; exact op_in_seq
theorem op_notInK (hK : X.K = K := by rfl) : OpR X (compareOp .NotIn) (rIn K true) := by subst hK; exact op_notIn_seq
theorem ix_listK (hK : X.K = K := by rfl) : IxR X (rIxL K) := by subst hK; exact ix_list
theorem ix_tupK (hK : X.K = K := by rfl) : IxR X (rIxT K) := by subst hK; exact ix_tup
theorem pe_fldK (he : PE X e ta) (hb : attributeBase e f X.env (eval e X.env) = eval e X.env) (hK : X.K = K := by rfl) : PE X (.Attribute e f pos) (tFld K ta f) := by subst hK; exact pe_fld he hb
theorem op_eqDK (hu : X.A.units + 64 < cLine) (hK : X.K = K := by rfl) : OpR X (compareOp .Eq) (rEqD K) := by subst hK; exact op_eqD hu
theorem op_neDK (hu : X.A.units + 64 < cLine) (hK : X.K = K := by rfl) : OpR X (compareOp .NotEq) (rNeD K) := by subst hK; exact op_neD hu
theorem call_isiK (hK : X.K = K := by rfl) : CallR X (.builtin "isinstance") (rIsi K) := by subst hK; exact call_isi
theorem cr_allK (hc : X.calm = true) (hK : X.K = K := by rfl) : CallR X (.builtin "all") (rAll K) := by subst hK; exact cr_all hc
theorem cr_sortedK (hK : X.K = K := by rfl) : CallR X (.builtin "sorted") (rSortedI K) := by subst hK; exact cr_sortedI
theorem call_lenK (hK : X.K = K := by rfl) : CallR X (.builtin "len") (fun xs H Q => ∃ x n, xs = [x] ∧ LenV K x H n ∧ Q (.int n) H) := by subst hK; exact call_len
theorem call_listK (hK : X.K = K := by rfl) : CallR X (.type "list") (fun xs H Q => ∃ p ys, xs = [.ref p] ∧ (SqL K H p ys ∨ SqT K H p ys) ∧ ∀ l, H l = none → Q (.ref l) (upd H l (.lst ys))) := by subst hK; exact call_list_of
theorem sl_listK (hK : X.K = K := by rfl) : SlR X (rSlL K) := by subst hK; exact sl_list
theorem sl_tupK (hK : X.K = K := by rfl) : SlR X (rSlA K) := by subst hK; exact sl_tupA
theorem pa_starK (he : PE X e te) (hr : PA X es t) (hs : starEach (.Starred e p :: es) X.env = (true, eval e X.env) :: starEach es X.env := by rfl) (hK : X.K = K := by rfl) : PA X (.Starred e p :: es) (StX.tStar K te t) := by subst hK; exact StX.pa_star he hr hs
theorem pe_tupleK (hg : Gl X "tuple") (hm : X.mg "tuple" = none) (ha : PE X a ta) (na : starEach [a] X.env = (false, eval a X.env) :: starEach [] X.env := by rfl) (hK : X.K = K := by rfl) : PE X (.Call (.Name "tuple" p) [a] [] pos) (tThen ta (kTup K)) := by subst hK; exact pe_tupleOf hg hm ha na
theorem pi_listK (hl : PE X e te) (hK : X.K = K := by rfl) : PI X tg e (iList K te) := by subst hK; exact pi_list hl
theorem pi_tupK (hl : PE X e te) (hK : X.K = K := by rfl) : PI X tg e (iTup K te) := by subst hK; exact pi_tup hl
theorem pi_enumK {tpos : Pos} {elts : List Expr} {kk : Nat} (hg : Gl X "enumerate") (hm : X.mg "enumerate" = none) (ha : PA X [e] t) (hs : starEach [e] X.env = [(false, eval e X.env)] := by rfl) (hK : X.K = K := by rfl) : PI X (.Tuple elts kk tpos) (.Call (.Name "enumerate" p) [e] [] pos) (iEnum K t) := by subst hK; exact pi_enum hg hm ha hs
theorem pi_zipK {e2 : Expr} {tpos : Pos} {elts : List Expr} {kk : Nat} (hg : Gl X "zip") (hm : X.mg "zip" = none) (ha : PA X [e, e2] t) (hs : starEach [e, e2] X.env = (false, eval e X.env) :: starEach [e2] X.env := by rfl) (hpl : (backTo pos (starEach [e2] X.env)).any (·.1) = false := by rfl) (hK : X.K = K := by rfl) :
    PI X (.Tuple elts kk tpos) (.Call (.Name "zip" p) [e, e2] [] pos) (RZ.iZipA K t) := by subst hK; exact RZ.pi_zipA hg hm ha hs hpl
theorem pg_tupK {k : Nat} {u : TGs} {n : Nat} (hc : X.calm = true) (h : PGs X es u) (hn : (assignEach es X.env).length = n := by rfl) (hst : (assignEach es X.env).findIdx? (·.1) = none := by rfl) (hK : X.K = K := by rfl) : PG X (.Tuple es k pos) (gTup K n u) := by subst hK; exact pg_tup hc h hn hst
theorem pg_unlK {k : Nat} {u : TGs} {n : Nat} (hc : X.calm = true) (h : PGs X es u) (hn : (assignEach es X.env).length = n := by rfl) (hst : (assignEach es X.env).findIdx? (·.1) = none := by rfl) (hK : X.K = K := by rfl) : PG X (.Tuple es k pos) (gUnl K n u) := by subst hK; exact pg_unl hc h hn hst
theorem pe_bm0K {r : V → List V → Hp → VK → Prop} (pa : PlainAttrs T) (slot : Slot T name id) (hty : typeOf (.builtin id) = pure (.type "method_descriptor")) (hm : MtR X id r) (ho : PE X o to)
    (hbase : attributeBase o name X.env (eval o X.env) = eval o X.env := by rfl) (hline : (apos.endLine == cpos.line) = true := by rfl) (hK : X.K = K := by rfl) : PE X (.Call (.Attribute o name apos) [] [] cpos) (tBM0 K T r to) := by subst hK; exact pe_bm0 pa slot hty hm ho hbase hline
theorem pe_bmK {r : V → List V → Hp → VK → Prop} (pa : PlainAttrs T) (slot : Slot T name id) (hty : typeOf (.builtin id) = pure (.type "method_descriptor")) (hm : MtR X id r) (ho : PE X o to) (ha : PA X (e :: es) t)
    (hbase : attributeBase o name X.env (eval o X.env) = eval o X.env := by rfl)
    (hfew : ((backTo cpos (starEach (e :: es) X.env)).all (fun x => !x.1) && (backToKw cpos (keywordEach [] X.env)).all (fun x => x.1.isSome)
      && decide ((e :: es).length + ([] : List Keyword).length + (if ([] : List Keyword).isEmpty then 0 else 1) < 30)) = true := by rfl)
    (hline : (apos.endLine == cpos.line) = true := by rfl) (hs : starEach (e :: es) X.env = (false, eval e X.env) :: starEach es X.env := by rfl) (hplain : (backTo cpos (starEach es X.env)).any (·.1) = false := by rfl) (hK : X.K = K := by rfl) :
    PE X (.Call (.Attribute o name apos) (e :: es) [] cpos) (tBM K T r to t) := by subst hK; exact pe_bm pa slot hty hm ho ha hbase hfew hline hs hplain
theorem ps_fldK {value : Expr} {tv : TE} {pos' : Pos} (ha : PE X o ta) (hv : PE X value tv) (hs : swapsWith value (some (.Attribute o f pos')) pos.line X.env = pure false) (hK : X.K = K := by rfl) : PS X (.Assign [.Attribute o f pos'] value pos) (sFld K ta tv f) := by subst hK; exact ps_fld ha hv hs
theorem call_reprK (hu : X.A.units + 64 < cLine) (hg : X.A.guards = some []) (hK : X.K = K := by rfl) : CallR X (.builtin "repr") (rRepr K) := by subst hK; exact call_reprD hu hg
theorem pe_joinK (ho : PE X o to) (he : PE X e te) (hs : starEach [e] X.env = [(false, eval e X.env)] := by rfl) (hbase : attributeBase o "join" X.env (eval o X.env) = eval o X.env := by rfl) (hline : (apos.endLine == pos.line) = true := by rfl) (hK : X.K = K := by rfl) :
    PE X (.Call (.Attribute o "join" apos) [e] [] pos) (tM1 (fun x xs H Q => ∃ a p, ∃ ys : List Str, x = .str a ∧ xs = [.ref p] ∧ (SqL K H p (ys.map V.str) ∨ SqT K H p (ys.map V.str)) ∧ (ys.map (·.length)).sum + ys.length * a.length ≤ 16777216 ∧ Q (.str (Txt.join a ys)) H) to te) := by
  subst hK; exact pe_join ho he hs hbase hline
/-- == and != of own instances -/
theorem op_eqK {k j : Nat} {C : Addr} {sp : Sp} (M : Ow X.prog X.w X.K X.mg X.base k C "__eq__" sp) (hr : Room j X.A) (hk : k ≤ j) (hK : X.K = K := by rfl) : OpR X (compareOp .Eq) (rEqO K C sp E0) := by subst hK; exact op_eq_ M hr hk
theorem op_neK {k j : Nat} {C : Addr} {sp : Sp} (M : Ow X.prog X.w X.K X.mg X.base k C "__eq__" sp) (hne : PySem.W.findIn X.K (.ref C) "__ne__" = some (some (.builtin "object.__ne__"))) (hm : PySem.W.mroIn X.K C (.type "object") = some true) (hr : Room j X.A) (hk : k + 1 ≤ j) (hK : X.K = K := by rfl) :
    OpR X (compareOp .NotEq) (rNeO K C sp E0) := by subst hK; exact op_ne_ M hne hm hr hk
theorem pe_mtSK {k j : Nat} {C g : Addr} {m : Str} {sp : Sp} {sp_ : Pos} (c : Cls X.K C) (M : MtS X.prog X.w X.K X.mg X.base k C m g sp) (hr : Room j X.A) (hk : k ≤ j) (he : PE X o ta) (ha : PE X e te) (hbase : attributeBase o m X.env (eval o X.env) = eval o X.env := by rfl) (hK : X.K = K := by rfl) :
    PE X (.Call (.Attribute o m apos) [.Starred e sp_] [] pos) (tMethS K C m g sp E0 ta te) := by subst hK; exact pe_mtS c M hr hk he ha hbase
theorem pe_mkS1K {k j : Nat} {C : Addr} {x : Str} {sp : Sp} {sp_ : Pos} {fe : Expr} {tf : TE} (M : Mkr X.prog X.w X.K X.mg X.base k x C sp) (hr : Room j X.A) (hk : k + 1 ≤ j) (hf : PE X fe tf) (he : PE X e te)
    (ht : eval (.Call fe [.Starred e sp_] [] pos) X.env = (do callWith pos (← eval fe X.env) [] (backTo pos (starEach [.Starred e sp_] X.env)) (backToKw pos (keywordEach [] X.env))) := by rfl)
    (hst : starEach [.Starred e sp_] X.env = [(true, eval e X.env)] := by rfl) (hK : X.K = K := by rfl) : PE X (.Call fe [.Starred e sp_] [] pos) (tMakeV C sp E0 tf (StX.tStar K te tNil)) := by subst hK; exact pe_mkS1 M hr hk hf he ht hst
end
end K62
set_option maxHeartbeats 4000000
/-! K62Db: names, signs, parts, places. -/
namespace K62
open PySem PySem.Spec PyProof.Rows L2
local macro_rules | `(tactic| walk_at "ev") => `(tactic| repeat' (first
  | ((with_reducible apply ev_var); exact rfl)
  | with_reducible exact ev_c
  | with_reducible exact ea_nil
  | with_reducible exact et_yes
  | with_reducible exact rv_I0
  | with_reducible exact eo_none
  | with_reducible apply eo_some
  | with_reducible apply ea_cons
  | with_reducible apply ev_op
  | (with_reducible apply ev_andV <;> try intro _)
  | (with_reducible apply ev_orV <;> try intro _)
  | with_reducible apply ev_notV
  | with_reducible apply ev_tup
  | with_reducible apply ev_lst
  | with_reducible apply ev_neg
  | with_reducible apply ev_cb
  | with_reducible apply et_B
  | with_reducible apply et_val
  | with_reducible apply et_not
  | (with_reducible apply et_and <;> try intro _)
  | (with_reducible apply et_or <;> try intro _)
  | with_reducible apply ev_call
  | with_reducible apply ev_fld
  | with_reducible exact cls_Cutter (by assumption)
  | with_reducible exact cls_Rule (by assumption)
  | with_reducible exact cls_Page (by assumption)
  | with_reducible exact cls_Inbox (by assumption)
  | with_reducible exact na_parts (by assumption)
  | with_reducible exact na_tables (by assumption)
  | with_reducible exact na_whole (by assumption)
  | with_reducible exact na_cutter (by assumption)
  | with_reducible exact na_sees (by assumption)
  | with_reducible exact na_rule (by assumption)
  | with_reducible exact na_pmarks (by assumption)
  | with_reducible exact na_letters (by assumption)
  | with_reducible exact na_bound (by assumption)
  | with_reducible exact na_shown (by assumption)
  | with_reducible exact na_moves (by assumption)
  | with_reducible exact na_near (by assumption)
  | with_reducible exact na_groups (by assumption)
  | with_reducible exact na_pages (by assumption)
  | with_reducible exact na_version (by assumption)
  | with_reducible exact na_marks (by assumption)
  | with_reducible exact isi_str (by assumption)
  | with_reducible exact isi_int (by assumption)
  | with_reducible exact isi_intbool (by assumption)
  | with_reducible exact isi_bool (by assumption)
  | with_reducible exact isi_tup (by assumption)
  | with_reducible exact isi_Cutter (by assumption)
  | with_reducible exact isi_Rule (by assumption)
  | with_reducible exact isi_Inbox (by assumption)
  | with_reducible exact rc_lenT
  | with_reducible exact rc_lenL
  | with_reducible apply rc_lenS
  | with_reducible exact rc_abs
  | with_reducible exact rc_max
  | with_reducible exact rc_min
  | with_reducible exact rc_int
  | with_reducible exact rc_intB
  | with_reducible exact rv_inSign
  | with_reducible exact rv_inT
  | with_reducible exact rv_inL
  | with_reducible exact rv_ninL
  | with_reducible exact rv_ixT0
  | with_reducible exact rv_ixT1
  | with_reducible exact rv_ixT2
  | with_reducible exact rv_ixT3
  | with_reducible exact rv_ixL0
  | with_reducible exact rv_ixL1
  | with_reducible exact rv_ixL2))
section
variable {P : Program} {w : World} {K : PySem.W.Frag} {mg : Str → Option Value} {base : Heap}
theorem sc_is_mark : FnScope ["value"] ["value"] (defScope s_is_mark) := ⟨rfl, rfl, rfl, by decide +kernel, rfl, by decide +kernel, by decide +kernel⟩
abbrev spIsMark : Sp := spP (fun (i : Int) _ => 0 ≤ i) (fun i => [rI i]) (fun _ => rB true)
theorem cl_is_mark (T : Tx P w K mg base) : Cl P w K mg base 2 "is_mark" spIsMark := by
  have c_is_integer := cl_is_integer T
  obtain ⟨fd, F⟩ := T.def_ di_is_mark
  refine ⟨_, T.glo fi_glo_is_mark, F.kp, fnR_of F sc_is_mark (fun _ => rfl) (fun _ _ _ _ _ _ us hl => match us, hl with | [_], _ => rfl) fun cdv A outer s H0 vs Q E hr i L G hp k S => ?_⟩
  refine ⟨_, (pss_one (ps_ret (pe_and (pe_callR c_is_integer hr (by decide) (by rfl) (pa_cons (pv 0) pa_nil)) (pe_one (pe_cmpR op_ge (pv 0) pe_int (nomark _)))))), ?_⟩
  try dsimp only [L2.cxOf]
  refine st_ret (r := rB true) (ms1 := []) ?_ S fun v G' H' e S' hv => k _ _ G' H' S' v hv
  apply ev_b
  walk_at "ev"
  · trivial
  · simpa using hp
theorem sc_is_name : FnScope ["value", "sign"] ["value"] (defScope s_is_name) := ⟨rfl, rfl, rfl, by decide +kernel, rfl, by decide +kernel, by decide +kernel⟩
def okName (z : Str) : Prop := z ∈ (["ann", "bob", "eve", "zzzzzzzz"] : List Str)
theorem name_facts : ((["ann", "bob", "eve", "zzzzzzzz"] : List Str).all fun z => decide ((1 : Int) ≤ z.length) && (decide ((z.length : Int) ≤ 8) && (decide (z.length ≤ 100) && z.cps.toList.all fun c => decide (c ∈ ("abcdefghijklmnopqrstuvwxyz" : Str).cps.toList)))) = true := by decide +kernel
abbrev spIsName : Sp := spP (fun (z : Str) _ => okName z) (fun z => [rS z]) (fun _ => rB true)
theorem cl_is_name (T : Tx P w K mg base) : Cl P w K mg base 1 "is_name" spIsName := by
  obtain ⟨fd, F⟩ := T.def_ di_is_name
  refine ⟨_, T.glo fi_glo_is_name, F.kp, fnR_of F sc_is_name (fun _ => rfl) (fun _ _ _ _ _ _ us hl => match us, hl with | [_], _ => rfl) fun cdv A outer s H0 vs Q E hr z L G hp k S => ?_⟩
  have f := List.all_eq_true.mp name_facts z hp
  simp only [Bool.and_eq_true, decide_eq_true_eq] at f
  obtain ⟨f1, f2, f3, f4⟩ := f
  refine ⟨_, (pss_one (ps_ret (pe_and (pe_callB (id := "isinstance") (call_isiK (K := K)) (by rfl) (T.free fi_free_isinstance) (by decide +kernel) (pa_cons (pv 0) (pa_cons (pe_bltn (v := .ty "str") (by rfl) (T.free fi_free_str) (by decide +kernel) rfl) pa_nil))) (pe_and (pe_chain op_le op_le pe_int (pe_callB (id := "len") (call_lenK (K := K)) (by rfl) (T.free fi_free_len) (by decide +kernel) (pa_cons (pv 0) pa_nil)) (pe_gint (T.int fi_int_LONGEST))) (pe_one (pe_callB (id := "all") (cr_allK (K := K) rfl) (by rfl) (T.free fi_free_all) (by decide +kernel) (pa_cons (pe_lc (own := [("sign", 1)]) rfl sc_is_name.nd (pi_str (pv 0)) (blkOk_by (own := [("sign", 1)]) (N := ["value", "sign"]) (sc := defScope s_is_name) (by decide +kernel)) (fun _ _ _ _ _ => (pg_name (i := 1) sc_is_name.nd rfl (Or.inl rfl) (Or.inr rfl))) (fun _ _ _ _ _ => pts_nil) (fun _ _ _ _ _ => (pe_cmpR op_in_sign (pv 1) (pe_gstr (T.str fi_str_LETTERS)) rfl))) pa_nil))))))), ?_⟩
  try dsimp only [L2.cxOf]
  refine st_ret (r := rB true) (ms1 := []) ?_ S fun v G' H' e S' hv => k _ _ G' H' S' v hv
  apply ev_b
  · apply ev_andV
    · walk_at "ev"
    · intro _
      apply ev_andV
      · apply ev_chain
        · walk_at "ev"
        · walk_at "ev"
          exact (Nat.le_trans f3 (by decide))
        · walk_at "ev"
        · intro _; walk_at "ev"
        · intro _; walk_at "ev"
      · intro _
        refine ev_all (ls := z.cps.toList) (g := fun c => decide (c ∈ ("abcdefghijklmnopqrstuvwxyz" : Str).cps.toList)) (ea_cons ?_ ea_nil)
        refine ev_lcA z.cps.toList (ei_str (ev_var rfl)) ?_ (fun c hc => gm_name (by simp)) fun c hc B => ?_
        · have : z.cps.toList.length = z.length := by simp [Str.length]
          omega
        · walk_at "ev"
  · simp only [Bool.true_and, Bool.and_eq_true, decide_eq_true_eq]
    exact ⟨⟨f1, f2⟩, f4⟩
end
end K62
set_option maxHeartbeats 4000000
/-! K62Dc: signs, parts, places. -/
namespace K62
open PySem PySem.Spec PyProof.Rows L2
local macro_rules | `(tactic| walk_at "ev") => `(tactic| repeat' (first
  | ((with_reducible apply ev_var); exact rfl)
  | with_reducible exact ev_c
  | with_reducible exact ea_nil
  | with_reducible exact et_yes
  | with_reducible exact rv_I0
  | with_reducible exact eo_none
  | with_reducible apply eo_some
  | with_reducible apply ea_cons
  | with_reducible apply ev_op
  | (with_reducible apply ev_andV <;> try intro _)
  | (with_reducible apply ev_orV <;> try intro _)
  | with_reducible apply ev_notV
  | with_reducible apply ev_tup
  | with_reducible apply ev_lst
  | with_reducible apply ev_neg
  | with_reducible apply ev_cb
  | with_reducible apply et_B
  | with_reducible apply et_val
  | with_reducible apply et_not
  | (with_reducible apply et_and <;> try intro _)
  | (with_reducible apply et_or <;> try intro _)
  | with_reducible apply ev_call
  | with_reducible apply ev_fld
  | with_reducible exact cls_Cutter (by assumption)
  | with_reducible exact cls_Rule (by assumption)
  | with_reducible exact cls_Page (by assumption)
  | with_reducible exact cls_Inbox (by assumption)
  | with_reducible exact na_parts (by assumption)
  | with_reducible exact na_tables (by assumption)
  | with_reducible exact na_whole (by assumption)
  | with_reducible exact na_cutter (by assumption)
  | with_reducible exact na_sees (by assumption)
  | with_reducible exact na_rule (by assumption)
  | with_reducible exact na_pmarks (by assumption)
  | with_reducible exact na_letters (by assumption)
  | with_reducible exact na_bound (by assumption)
  | with_reducible exact na_shown (by assumption)
  | with_reducible exact na_moves (by assumption)
  | with_reducible exact na_near (by assumption)
  | with_reducible exact na_groups (by assumption)
  | with_reducible exact na_pages (by assumption)
  | with_reducible exact na_version (by assumption)
  | with_reducible exact na_marks (by assumption)
  | with_reducible exact isi_str (by assumption)
  | with_reducible exact isi_int (by assumption)
  | with_reducible exact isi_intbool (by assumption)
  | with_reducible exact isi_bool (by assumption)
  | with_reducible exact isi_tup (by assumption)
  | with_reducible exact isi_Cutter (by assumption)
  | with_reducible exact isi_Rule (by assumption)
  | with_reducible exact isi_Inbox (by assumption)
  | with_reducible exact rc_lenT
  | with_reducible exact rc_lenL
  | with_reducible apply rc_lenS
  | with_reducible exact rc_abs
  | with_reducible exact rc_max
  | with_reducible exact rc_min
  | with_reducible exact rc_int
  | with_reducible exact rc_intB
  | with_reducible exact rv_inSign
  | with_reducible exact rv_inT
  | with_reducible exact rv_inL
  | with_reducible exact rv_ninL
  | with_reducible exact rv_ixT0
  | with_reducible exact rv_ixT1
  | with_reducible exact rv_ixT2
  | with_reducible exact rv_ixT3
  | with_reducible exact rv_ixL0
  | with_reducible exact rv_ixL1
  | with_reducible exact rv_ixL2))
theorem len_map {α β : Type} (f : α → β) (l : List α) {n : Nat} (h : l.length ≤ n) : (l.map f).length ≤ n := by rw [List.length_map]; exact h
section
variable {B : Bs} {L : List Addr} {ctx : Ct} {ms ms1 ms2 : Ms} {te ta : TE} {r : Rp} {K : PySem.W.Frag}
/-- o.f = e, o a cell -/
theorem st_fldM {D : Ends} {σ : L2.St} {G H : Hp} {C dx a : Addr} {fs : List (Str × Rp)} {f : Str} {j : Nat} (h : EvM B L te ctx ms r ms1) (ho : EvM B L ta ctx ms1 (rV (.ref a)) ms2) (hj : ms2[j]? = some (a, .ins C dx fs)) (c : Cls K C) (n : NoAttr K C f) (hl : fs.length < 100) (S : Sx B L ctx ms σ G H)
    (k : ∀ G' H', Same G G' → Sx B L ctx (ms2.set j (a, .ins C dx (putR f r fs))) σ G' H' → D.nx σ H') : sFld K ta te f D σ H :=
  h σ G H S _ fun v G1 H1 e1 S1 hv => ho σ G1 H1 S1 _ fun x G2 H2 e2 S2 ex => by
    have q : CAt a G2 H2 (.ins C dx fs) := S2.mem.at_ _ (List.mem_of_getElem? hj)
    cases q with
    | @ins _ _ _ gs ha hal => exact ⟨a, C, dx, gs, ex, ha, c, n, by rw [← hal.len]; omega, k G2 _ (e1.trans e2) (S2.put hj (.ins upd_same (hal.put (r.mono e2 hv))))⟩
theorem ei_enumS {l : List Bool} (h : EvM B L te ctx ms (rS (sgs l)) ms1) : EvI B L (iEnumS te) ctx ms ((List.range l.length).map fun i => rTup [rN_ i, rS ⟨#[sg (l.getD i false)]⟩]) ms1 := fun σ G H S R k => h σ G H S _ fun v G1 H1 e1 S1 ev =>
  ⟨sgs l, ev, k _ G1 H1 e1 S1 ⟨fun {B ctx ms σ G H i r} e _ S hr => (by
    rw [List.getElem?_map] at hr
    rcases Nat.lt_or_ge i l.length with hi | hi
    · rw [List.getElem?_range hi] at hr
      cases hr
      have sz : (sgs l).cps.size = l.length := by simp [sgs]
      refine ⟨by show i < (sgs l).cps.size; rw [sz]; exact hi, fun x H' z => ?_⟩
      obtain ⟨T, c, e1, e2, e3, e4⟩ := z
      have ec : c = sg (l.getD i false) := by
        have : (sgs l).cps[i]? = some (sg l[i]) := by simp [sgs, List.getElem?_eq_getElem hi]
        rw [this] at e3
        cases e3
        simp [List.getD, List.getElem?_eq_getElem hi]
      subst ec e1 e4
      obtain ⟨e5, S5⟩ := S.new (o := .tup [.int (i : Nat), .str ⟨#[sg (l.getD i false)]⟩]) e2
      exact ⟨_, e5, S5, T, _, rfl, upd_same, .cons rfl (.cons rfl .nil)⟩
    · rw [List.getElem?_eq_none (by rw [List.length_range]; exact hi)] at hr; cases hr), fun {B ctx ms σ G H i} e _ S hi => by
    rw [List.length_map, List.length_range] at hi
    show (sgs l).cps.size ≤ i
    have sz : (sgs l).cps.size = l.length := by simp [sgs]
    rw [sz]; exact hi⟩⟩
end
theorem sgs_len (l : List Bool) : (sgs l).length = l.length := by simp [sgs, Str.length]
theorem sg_plus (b : Bool) : decide (V.str ⟨#[sg b]⟩ = V.str "+") = b := by cases b <;> decide +kernel
def gap : Str := ".."
theorem split_facts : (pats.all fun p => match p with
    | .pat f b => decide (Txt.split p.str gap = [sgs f, sgs b]) && (decide (p.str ≠ "all") && (decide (p.str.length ≤ 100) && (decide (f.length ≤ 2) && decide (b.length ≤ 3))))
    | .all => false) = true := by decide +kernel
theorem split_pat {f b : List Bool} (h : (Pt.pat f b).ok) : Txt.split (Pt.pat f b).str gap = [sgs f, sgs b] ∧ (Pt.pat f b).str ≠ "all" ∧ (Pt.pat f b).str.length ≤ 100 := by
  have z := List.all_eq_true.mp split_facts _ (mem_pats h)
  simp only [Bool.and_eq_true, decide_eq_true_eq] at z
  exact ⟨z.1, z.2.1, z.2.2.1⟩
theorem split_all : Txt.split Pt.all.str gap = [("all" : Str)] := by decide +kernel
theorem split_al {f b : List Bool} (h : (Pt.pat f b).ok) : (Txt.split (Pt.pat f b).str gap).map rS = [rS (sgs f), rS (sgs b)] := by rw [(split_pat h).1]; rfl
theorem pat_ne {f b : List Bool} (h : (Pt.pat f b).ok) : decide (V.str (Pt.pat f b).str = V.str "all") = false := decide_eq_false fun e => (split_pat h).2.1 (V.str.inj e)
section
variable {P : Program} {w : World} {K : PySem.W.Frag} {mg : Str → Option Value} {base : Heap}
abbrev spAreSigns : Sp := spP (fun (x : List Bool × Nat) _ => x.1.length ≤ x.2 ∧ x.2 ≤ 3) (fun x => [rS (sgs x.1), rN_ x.2]) (fun _ => rB true)
theorem sc_are_signs : FnScope ["text", "most", "sign"] ["text", "most"] (defScope s_are_signs) := ⟨rfl, rfl, rfl, by decide +kernel, rfl, by decide +kernel, by decide +kernel⟩
theorem cl_are_signs (T : Tx P w K mg base) : Cl P w K mg base 1 "are_signs" spAreSigns := by
  obtain ⟨fd, F⟩ := T.def_ di_are_signs
  refine ⟨_, T.glo fi_glo_are_signs, F.kp, fnR_of F sc_are_signs (fun _ => rfl) (fun _ _ _ _ _ _ us hl => match us, hl with | [_, _], _ => rfl) fun cdv A outer s H0 vs Q E hr z L G hp k S => ?_⟩
  obtain ⟨l, n⟩ := z
  have h1 : l.length ≤ n := hp.1
  have h2 : n ≤ 3 := hp.2
  refine ⟨_, (pss_one (ps_ret (pe_and (pe_cmpR op_le (pe_callB (id := "len") (call_lenK (K := K)) (by rfl) (T.free fi_free_len) (by decide +kernel) (pa_cons (pv 0) pa_nil)) (pv 1) (nomark _)) (pe_one (pe_callB (id := "all") (cr_allK (K := K) rfl) (by rfl) (T.free fi_free_all) (by decide +kernel) (pa_cons (pe_lc (own := [("sign", 2)]) rfl sc_are_signs.nd (pi_str (pv 0)) (blkOk_by (own := [("sign", 2)]) (N := ["text", "most", "sign"]) (sc := defScope s_are_signs) (by decide +kernel)) (fun _ _ _ _ _ => (pg_name (i := 2) sc_are_signs.nd rfl (Or.inl rfl) (Or.inr rfl))) (fun _ _ _ _ _ => pts_nil) (fun _ _ _ _ _ => (pe_cmpR op_in_sign (pv 2) pe_str rfl))) pa_nil)))))), ?_⟩
  try dsimp only [L2.cxOf]
  refine st_ret (r := rB true) (ms1 := []) ?_ S fun v G' H' e S' hv => k _ _ G' H' S' v hv
  apply ev_b
  · apply ev_andV
    · walk_at "ev"
      rw [sgs_len]; omega
    · intro _
      refine ev_all (ls := (sgs l).cps.toList) (g := fun c => decide (c ∈ ("+-" : Str).cps.toList)) (ea_cons ?_ ea_nil)
      refine ev_lcA (sgs l).cps.toList (ei_str (ev_var rfl)) ?_ (fun c hc => gm_name (by simp)) fun c hc B => ?_
      · simp [sgs]; omega
      · walk_at "ev"
  · rw [sgs_len, Bool.and_eq_true, decide_eq_true_eq]
    refine ⟨by omega, List.all_eq_true.mpr fun c hc => ?_⟩
    have : c ∈ l.map sg := by simpa [sgs] using hc
    obtain ⟨b, _, rfl⟩ := List.mem_map.mp this
    cases b <;> decide +kernel
abbrev spIsPart : Sp := spP (fun (p : Pt) _ => p.ok) (fun p => [rP p]) (fun _ => rB true)
theorem sc_is_part : FnScope ["value", "sides"] ["value"] (defScope s_is_part) := ⟨rfl, rfl, rfl, by decide +kernel, rfl, by decide +kernel, by decide +kernel⟩
theorem cl_is_part (T : Tx P w K mg base) : Cl P w K mg base 2 "is_part" spIsPart := by
  obtain ⟨fd, F⟩ := T.def_ di_is_part
  refine ⟨_, T.glo fi_glo_is_part, F.kp, fnR_of F sc_is_part (fun _ => rfl) (fun _ _ _ _ _ _ us hl => match us, hl with | [_], _ => rfl) fun cdv A outer s H0 vs Q E hr p L G hp k S => ?_⟩
  have c_are_signs := cl_are_signs T
  refine ⟨_, (pss_cons (ps_if (pt_not (pt_val (pe_callB (id := "isinstance") (call_isiK (K := K)) (by rfl) (T.free fi_free_isinstance) (by decide +kernel) (pa_cons (pv 0) (pa_cons (pe_bltn (v := .ty "str") (by rfl) (T.free fi_free_str) (by decide +kernel) rfl) pa_nil))))) (pss_one (ps_ret pe_bl)) pss_nil)
    (pss_cons (ps_set (i := 1) sc_is_part.nd rfl (Or.inl rfl) (pe_split (pv 0) (pe_gstr (T.str fi_str_GAP))))
    (pss_one (ps_ret (pe_or (pe_cmpR op_eq (pv 0) (pe_gstr (T.str fi_str_WHOLE)) (nomark _)) (pe_one (pe_and (pe_cmpR op_eq (pe_callB (id := "len") (call_lenK (K := K)) (by rfl) (T.free fi_free_len) (by decide +kernel) (pa_cons (pv 1) pa_nil)) pe_int (nomark _)) (pe_and (pe_callR c_are_signs hr (by decide) (by rfl) (pa_cons (pe_ix (ix_listK (K := K)) (pv 1) pe_int (fun _ _ => rfl)) (pa_cons (pe_gint (T.int fi_int_MOST_FRONT)) pa_nil))) (pe_one (pe_callR c_are_signs hr (by decide) (by rfl) (pa_cons (pe_ix (ix_listK (K := K)) (pv 1) pe_int (fun _ _ => rfl)) (pa_cons (pe_gint (T.int fi_int_MOST_BACK)) pa_nil)))))))))))), ?_⟩
  try dsimp only [L2.cxOf]
  refine st_ifF (et_b (c := false) (et_not (et_B (ev_cb (ea_cons (ev_var rfl) (ea_cons ev_c ea_nil)) (isi_str T)))) rfl) S fun G1 H1 e1 S1 => ?_
  have hlen : p.str.length ≤ 1000 := by
    cases p with
    | all => decide +kernel
    | pat f b => have := (split_pat hp).2.2; omega
  refine st_set (i := 1) (ev_split (ev_var rfl) ev_c (by decide +kernel) hlen) S1 fun σ2 G2 H2 e2 S2 => ?_
  dsimp only
  refine st_ret (r := rB true) (ms1 := []) ?_ S2 fun v G' H' e S' hv => k _ _ G' H' S' v hv
  cases p with
  | all =>
    apply ev_b
    · apply ev_orV (c := true)
      · refine ev_op (ev_var rfl) ev_c (rv_eq rfl)
      · intro h; exact absurd h (by decide +kernel)
    · rw [Bool.or_true]
  | pat f b =>
    have hs : (Txt.split (Pt.pat f b).str gap).map rS = [rS (sgs f), rS (sgs b)] := split_al hp
    apply ev_b
    · apply ev_orV
      · refine ev_op (ev_var rfl) ev_c (rv_eq rfl)
      · intro _
        have sv : ∀ B, EvM B L (tVar 1) (((List.map some [rP (.pat f b)]) ++ [none]).set 1 (some (rLst ((Txt.split (Pt.pat f b).str gap).map rS)))) [] (rLst [rS (sgs f), rS (sgs b)]) [] := fun B => ev_is (ev_var rfl) (by rw [hs])
        apply ev_andV
        · refine ev_op (ev_cb (ea_cons (sv _) ea_nil) rc_lenL) ev_c (rv_eq rfl)
        · intro _
          apply ev_andV
          · refine ev_call (f, 2) (ea_cons (ev_op (sv _) ev_c rv_ixL0) (ea_cons ev_c ea_nil)) ⟨hp.1, by omega⟩
          · intro _
            refine ev_call (b, 3) (ea_cons (ev_op (sv _) ev_c rv_ixL1) (ea_cons ev_c ea_nil)) ⟨hp.2, by omega⟩
    · rw [show decide (V.int ((([rS (sgs f), rS (sgs b)] : List Rp).length : Nat) : Int) = V.int 2) = true from rfl]
      simp
end
end K62
set_option maxHeartbeats 4000000
/-! K62Dd: the places a part keeps; tables. -/
namespace K62
open PySem PySem.Spec PyProof.Rows L2
local macro_rules | `(tactic| walk_at "ev") => `(tactic| repeat' (first
  | ((with_reducible apply ev_var); exact rfl)
  | with_reducible exact ev_c
  | with_reducible exact ea_nil
  | with_reducible exact et_yes
  | with_reducible exact rv_I0
  | with_reducible exact eo_none
  | with_reducible apply eo_some
  | with_reducible apply ea_cons
  | with_reducible apply ev_op
  | (with_reducible apply ev_andV <;> try intro _)
  | (with_reducible apply ev_orV <;> try intro _)
  | with_reducible apply ev_notV
  | with_reducible apply ev_tup
  | with_reducible apply ev_lst
  | with_reducible apply ev_neg
  | with_reducible apply ev_cb
  | with_reducible apply et_B
  | with_reducible apply et_val
  | with_reducible apply et_not
  | (with_reducible apply et_and <;> try intro _)
  | (with_reducible apply et_or <;> try intro _)
  | with_reducible apply ev_call
  | with_reducible apply ev_fld
  | with_reducible exact cls_Cutter (by assumption)
  | with_reducible exact cls_Rule (by assumption)
  | with_reducible exact cls_Page (by assumption)
  | with_reducible exact cls_Inbox (by assumption)
  | with_reducible exact na_parts (by assumption)
  | with_reducible exact na_tables (by assumption)
  | with_reducible exact na_whole (by assumption)
  | with_reducible exact na_cutter (by assumption)
  | with_reducible exact na_sees (by assumption)
  | with_reducible exact na_rule (by assumption)
  | with_reducible exact na_pmarks (by assumption)
  | with_reducible exact na_letters (by assumption)
  | with_reducible exact na_bound (by assumption)
  | with_reducible exact na_shown (by assumption)
  | with_reducible exact na_moves (by assumption)
  | with_reducible exact na_near (by assumption)
  | with_reducible exact na_groups (by assumption)
  | with_reducible exact na_pages (by assumption)
  | with_reducible exact na_version (by assumption)
  | with_reducible exact na_marks (by assumption)
  | with_reducible exact isi_str (by assumption)
  | with_reducible exact isi_int (by assumption)
  | with_reducible exact isi_intbool (by assumption)
  | with_reducible exact isi_bool (by assumption)
  | with_reducible exact isi_tup (by assumption)
  | with_reducible exact isi_Cutter (by assumption)
  | with_reducible exact isi_Rule (by assumption)
  | with_reducible exact isi_Inbox (by assumption)
  | with_reducible exact rc_lenT
  | with_reducible exact rc_lenL
  | with_reducible apply rc_lenS
  | with_reducible exact rc_abs
  | with_reducible exact rc_max
  | with_reducible exact rc_min
  | with_reducible exact rc_int
  | with_reducible exact rc_intB
  | with_reducible exact rv_inSign
  | with_reducible exact rv_inT
  | with_reducible exact rv_inL
  | with_reducible exact rv_ninL
  | with_reducible exact rv_ixT0
  | with_reducible exact rv_ixT1
  | with_reducible exact rv_ixT2
  | with_reducible exact rv_ixT3
  | with_reducible exact rv_ixL0
  | with_reducible exact rv_ixL1
  | with_reducible exact rv_ixL2))
/-- the places that the program collects -/
def kl (f b : List Bool) (n : Nat) : List Int := (((List.range f.length).filter fun i => f.getD i false).map fun i => ((i : Nat) : Int)) ++ (((List.range b.length).filter fun i => b.getD i false).map fun (i : Nat) => (n : Int) - b.length + (i : Int))
theorem kl_keep {f b : List Bool} {n i : Nat} (hi : i < n) : decide ((i : Int) ∈ kl f b n) = (Pt.pat f b).keep n i := by
  have e : decide ((i : Int) ∈ kl f b n) = (decide ((i : Int) ∈ ((List.range f.length).filter fun i => f.getD i false).map fun i => ((i : Nat) : Int)) || decide ((i : Int) ∈ ((List.range b.length).filter fun i => b.getD i false).map fun (i : Nat) => (n : Int) - b.length + (i : Int))) := by
    rw [← Bool.decide_or]
    exact decide_eq_decide.mpr List.mem_append
  rw [e]
  show _ = ((decide (i < f.length) && f.getD i false) || (decide (n ≤ i + b.length) && b.getD (b.length + i - n) false))
  congr 1
  · by_cases h : i < f.length ∧ f.getD i false = true
    · rw [decide_eq_true (List.mem_map.mpr ⟨i, List.mem_filter.mpr ⟨List.mem_range.mpr h.1, h.2⟩, rfl⟩), decide_eq_true h.1, h.2]; rfl
    · have : (decide (i < f.length) && f.getD i false) = false := by
        by_cases h1 : i < f.length
        · rw [decide_eq_true h1, Bool.true_and]; simpa using fun z => h ⟨h1, z⟩
        · rw [decide_eq_false h1]; rfl
      rw [this]
      refine decide_eq_false fun z => ?_
      obtain ⟨j, hj, e⟩ := List.mem_map.mp z
      obtain ⟨j1, j2⟩ := List.mem_filter.mp hj
      have : j = i := by omega
      subst this
      exact h ⟨List.mem_range.mp j1, j2⟩
  · by_cases h : n ≤ i + b.length ∧ b.getD (b.length + i - n) false = true
    · rw [decide_eq_true h.1, h.2, Bool.true_and]
      refine decide_eq_true (List.mem_map.mpr ⟨b.length + i - n, List.mem_filter.mpr ⟨List.mem_range.mpr (by omega), h.2⟩, by omega⟩)
    · have : (decide (n ≤ i + b.length) && b.getD (b.length + i - n) false) = false := by
        by_cases h1 : n ≤ i + b.length
        · rw [decide_eq_true h1, Bool.true_and]; simpa using fun z => h ⟨h1, z⟩
        · rw [decide_eq_false h1]; rfl
      rw [this]
      refine decide_eq_false fun z => ?_
      obtain ⟨j, hj, e⟩ := List.mem_map.mp z
      obtain ⟨j1, j2⟩ := List.mem_filter.mp hj
      have j3 := List.mem_range.mp j1
      have : j = b.length + i - n := by omega
      subst this
      exact h ⟨by omega, j2⟩
theorem map_map_rI {α : Type} {g : α → Int} {l : List α} : (l.map fun a => rI (g a)) = (l.map g).map rI := by rw [List.map_map]; rfl
section
variable {P : Program} {w : World} {K : PySem.W.Frag} {mg : Str → Option Value} {base : Heap}
abbrev spPartPlaces : Sp := spP (fun (x : Pt × Nat) _ => x.1.ok ∧ x.2 ≤ 1000) (fun x => [rP x.1, rN_ x.2]) (fun x => rLst ((pickI x.1 x.2).map rN_))
theorem sc_part_places : FnScope ["part", "many", "front", "back", "ahead", "at", "sign", "kept", "place"] ["part", "many"] (defScope s_part_places) := ⟨rfl, rfl, rfl, by decide +kernel, rfl, by decide +kernel, by decide +kernel⟩
theorem cl_part_places (T : Tx P w K mg base) : Cl P w K mg base 1 "part_places" spPartPlaces := by
  obtain ⟨fd, F⟩ := T.def_ di_part_places
  refine ⟨_, T.glo fi_glo_part_places, F.kp, fnR_of F sc_part_places (fun _ => rfl) (fun _ _ _ _ _ _ us hl => match us, hl with | [_, _], _ => rfl) fun cdv A outer s H0 vs Q E hr z L G hp k S => ?_⟩
  obtain ⟨p, n⟩ := z
  have h1 : p.ok := hp.1
  have h2 : n ≤ 1000 := hp.2
  refine ⟨_, (pss_cons (ps_if (pt_cmpR op_eq (pv 0) (pe_gstr (T.str fi_str_WHOLE)) (nomark _)) (pss_one (ps_ret (pe_listRg rfl (by rfl) (T.free fi_free_list) (prg_1 (by rfl) (T.free fi_free_range) (pv 1))))) pss_nil)
    (pss_cons (ps_asg (pe_split (pv 0) (pe_gstr (T.str fi_str_GAP))) (pg_unlK (K := K) (n := 2) rfl (pgs_cons (pg_name (i := 2) sc_part_places.nd rfl (Or.inl rfl)) (pgs_cons (pg_name (i := 3) sc_part_places.nd rfl (Or.inr rfl)) pgs_nil))))
    (pss_cons (ps_setLc (i := 4) (own := [("at", 5), ("sign", 6)]) rfl sc_part_places.nd rfl rfl (sw_true rfl rfl rfl (by decide +kernel)) (pi_enumS (by rfl) (T.free fi_free_enumerate) (pv 2)) (blkOk_by (own := [("at", 5), ("sign", 6)]) (N := ["part", "many", "front", "back", "ahead", "at", "sign", "kept", "place"]) (sc := defScope s_part_places) (by decide +kernel)) (fun _ _ _ _ _ => (pg_tupK (K := K) (n := 2) rfl (pgs_cons (pg_name (i := 5) sc_part_places.nd rfl (Or.inl rfl) (Or.inr rfl)) (pgs_cons (pg_name (i := 6) sc_part_places.nd rfl (Or.inl rfl) (Or.inr rfl)) pgs_nil)))) (fun _ _ _ _ _ => (pts_one (pt_cmpR op_eq (pv 6) pe_str (nomark _)))) (fun _ _ _ _ _ => (pv 5)))
    (pss_cons (ps_set (i := 7) sc_part_places.nd rfl (Or.inr rfl) (pe_lst (pa_starK (K := K) (pv 4) (pa_starK (K := K) (pe_lc (own := [("at", 5), ("sign", 6)]) rfl sc_part_places.nd (pi_enumS (by rfl) (T.free fi_free_enumerate) (pv 3)) (blkOk_by (own := [("at", 5), ("sign", 6)]) (N := ["part", "many", "front", "back", "ahead", "at", "sign", "kept", "place"]) (sc := defScope s_part_places) (by decide +kernel)) (fun _ _ _ _ _ => (pg_tupK (K := K) (n := 2) rfl (pgs_cons (pg_name (i := 5) sc_part_places.nd rfl (Or.inl rfl) (Or.inr rfl)) (pgs_cons (pg_name (i := 6) sc_part_places.nd rfl (Or.inl rfl) (Or.inr rfl)) pgs_nil)))) (fun _ _ _ _ _ => (pts_one (pt_cmpR op_eq (pv 6) pe_str (nomark _)))) (fun _ _ _ _ _ => (pe_op op_add (pe_op op_sub (pv 1) (pe_callB (id := "len") (call_lenK (K := K)) (by rfl) (T.free fi_free_len) (by decide +kernel) (pa_cons (pv 3) pa_nil))) (pv 5)))) pa_nil))))
    (pss_one (ps_ret (pe_lc (own := [("place", 8)]) rfl sc_part_places.nd (pi_range1 (by rfl) (T.free fi_free_range) (pa_cons (pv 1) pa_nil)) (blkOk_by (own := [("place", 8)]) (N := ["part", "many", "front", "back", "ahead", "at", "sign", "kept", "place"]) (sc := defScope s_part_places) (by decide +kernel)) (fun _ _ _ _ _ => (pg_name (i := 8) sc_part_places.nd rfl (Or.inl rfl) (Or.inr rfl))) (fun _ _ _ _ _ => (pts_one (pt_cmpR (op_inK (K := K)) (pv 8) (pv 7) (by rfl)))) (fun _ _ _ _ _ => (pv 8))))))))), ?_⟩
  try dsimp only [L2.cxOf]
  cases p with
  | all =>
    refine st_ifT (et_b (c := true) (et_val (ev_op (ev_var rfl) ev_c (rv_eq rfl))) (by show decide (V.str Pt.all.str = V.str "all") = true; decide +kernel)) S fun G1 H1 e1 S1 => ?_
    refine st_ret (r := rLst ((List.range n).map rN_)) (ms1 := []) (ev_lstRg (ev_var rfl) (by omega)) S1 fun v G' H' e S' hv => k _ _ G' H' S' v ?_
    have e : pickI .all n = List.range n := List.filter_eq_self.mpr fun _ _ => rfl
    rw [← e] at hv
    exact hv
  | pat f b =>
    have hf : f.length ≤ 2 := h1.1
    have hb : b.length ≤ 3 := h1.2
    refine st_ifF (et_b (c := false) (et_val (ev_op (ev_var rfl) ev_c (rv_eq rfl))) (pat_ne h1)) S fun G1 H1 e1 S1 => ?_
    dsimp only [tNext]
    refine st_unp (ev_is (ev_split (ev_var rfl) ev_c (by decide +kernel) (Nat.le_trans (split_pat h1).2.2 (by decide))) (congrArg rLst (split_al h1))) (gm_lst2 (vs := [2, 3]) (by simp) (by simp)) S1 fun σ2 G2 H2 e2 S2 => ?_
    dsimp only
    refine st_set (i := 4) (r := rLst (((List.range f.length).filter fun i => f.getD i false).map rN_)) (ms1 := []) ?_ S2 fun σ3 G3 H3 e3 S3 => ?_
    · refine ev_lc (List.range f.length) (ei_enumS (ev_var rfl)) (by rw [List.length_range]; omega) (fun i hi => gm_tup2 (by simp) (by simp)) (fun i hi B => ?_) fun i hi hb B => ev_var rfl
      exact et_b (et_val (ev_op (ev_var rfl) ev_c (rv_eq rfl))) (sg_plus _)
    dsimp only
    refine st_set (i := 7) (r := rLst ((kl f b n).map rI)) (ms1 := []) ?_ S3 fun σ4 G4 H4 e4 S4 => ?_
    · refine ev_is (ev_lst (ea_starL (ev_var rfl) (ea_starL (ev_lc (List.range b.length) (e := fun (i : Nat) => rI ((n : Int) - b.length + (i : Int))) (b := fun i => b.getD i false) (ei_enumS (ev_var rfl)) (by rw [List.length_range]; omega) (fun i hi => gm_tup2 (by simp) (by simp)) (fun i hi B => et_b (et_val (ev_op (ev_var rfl) ev_c (rv_eq rfl))) (sg_plus _)) fun i hi hb B => ?_) ea_nil)) ?_) ?_
      · have z : ((sgs b).length : Int) = b.length := by rw [sgs_len]
        refine ev_op (ev_op (ev_var rfl) (ev_is (ev_cb (ea_cons (ev_var rfl) ea_nil) (rc_lenS (by rw [sgs_len]; omega))) (by rw [z])) rv_I0) (ev_var rfl) rv_I0
      · simp only [List.length_append, List.length_map, List.length_nil]
        have := List.length_filter_le (fun i => f.getD i false) (List.range f.length)
        have := List.length_filter_le (fun i => b.getD i false) (List.range b.length)
        simp only [List.length_range] at *
        omega
      · unfold kl
        rw [List.append_nil, List.map_append, List.map_map, List.map_map]
        rfl
    dsimp only
    refine st_ret (r := rLst ((pickI (.pat f b) n).map rN_)) (ms1 := []) ?_ S4 fun v G' H' e S' hv => k _ _ G' H' S' v hv
    have hn : ((n : Nat) : Int).toNat = n := by omega
    refine ev_is (ev_lc (List.range n) (f := fun i => rN_ i) (b := fun i => decide ((i : Int) ∈ kl f b n)) (e := fun i => rN_ i) (ei_rng1 (ea_cons (ev_var rfl) ea_nil) hn (by omega) (by omega)) (by rw [List.length_range]; omega) (fun i hi => gm_name (by simp)) (fun i hi B => ?_) fun i hi hb B => ev_var rfl) ?_
    · exact et_val (ev_op (ev_var rfl) (ev_var rfl) rv_inL)
    · unfold pickI
      rw [List.filter_congr fun i hi => kl_keep (List.mem_range.mp hi)]
abbrev spChain : Sp := spP (fun (x : List Pt × Nat) _ => okPs x.1 ∧ x.2 ≤ 1000) (fun x => [rTup (x.1.map rP), rN_ x.2]) (fun x => rNs (kept x.1 (List.range x.2)))
theorem pick_get (p : Pt) (xs : List Nat) : (pickI p xs.length).map (fun i => xs.getD i 0) = pick p xs := by
  unfold pick
  have : ∀ l : List Nat, (∀ i ∈ l, i < xs.length) → l.map (fun i => xs.getD i 0) = l.filterMap fun i => xs[i]? := fun l => by
    induction l with
    | nil => intro _; rfl
    | cons i l ih =>
      intro h
      rw [List.map_cons, ih fun j hj => h j (List.mem_cons_of_mem _ hj), List.filterMap_cons]
      have this := List.getElem?_eq_getElem (h i List.mem_cons_self)
      rw [this]
      simp [List.getD, this]
  exact this _ fun i hi => List.mem_range.mp (List.mem_filter.mp hi).1
theorem kept_snoc {α : Type} (ps : List Pt) (p : Pt) (xs : List α) : kept (ps ++ [p]) xs = pick p (kept ps xs) := by unfold kept; rw [List.foldl_append]; rfl
theorem sc_chain_places : FnScope ["parts", "many", "places", "part", "at"] ["parts", "many"] (defScope s_chain_places) := ⟨rfl, rfl, rfl, by decide +kernel, rfl, by decide +kernel, by decide +kernel⟩
theorem cl_chain_places (T : Tx P w K mg base) : Cl P w K mg base 2 "chain_places" spChain := by
  obtain ⟨fd, F⟩ := T.def_ di_chain_places
  refine ⟨_, T.glo fi_glo_chain_places, F.kp, fnR_of F sc_chain_places (fun _ => rfl) (fun _ _ _ _ _ _ us hl => match us, hl with | [_, _], _ => rfl) fun cdv A outer s H0 vs Q E hr z L G hp k S => ?_⟩
  have c_part_places := cl_part_places T
  obtain ⟨ps, n⟩ := z
  have h1 : okPs ps := hp.1
  have h2 : n ≤ 1000 := hp.2
  refine ⟨_, (pss_cons (ps_set (i := 2) sc_chain_places.nd rfl (Or.inr rfl) (pe_listRg rfl (by rfl) (T.free fi_free_list) (prg_1 (by rfl) (T.free fi_free_range) (pv 1))))
    (pss_cons (ps_for PassesOwn.never rfl (pi_tupK (K := K) (pv 0)) (pg_name (i := 3) sc_chain_places.nd rfl (Or.inl rfl))
      (pss_one (ps_set (i := 2) sc_chain_places.nd rfl (Or.inr rfl) (pe_lc (own := [("at", 4)]) rfl sc_chain_places.nd (pi_listK (K := K) (pe_callR c_part_places hr (by decide) (by rfl) (pa_cons (pv 3) (pa_cons (pe_callB (id := "len") (call_lenK (K := K)) (by rfl) (T.free fi_free_len) (by decide +kernel) (pa_cons (pv 2) pa_nil)) pa_nil)))) (blkOk_by (own := [("at", 4)]) (N := ["parts", "many", "places", "part", "at"]) (sc := defScope s_chain_places) (by decide +kernel)) (fun _ _ _ _ _ => (pg_name (i := 4) sc_chain_places.nd rfl (Or.inl rfl) (Or.inr rfl))) (fun _ _ _ _ _ => pts_nil) (fun _ _ _ _ _ => (pe_ix (ix_listK (K := K)) (pv 2) (pv 4) (fun _ _ => rfl)))))))
    (pss_one (ps_ret (pe_tupleK (K := K) (by rfl) (T.free fi_free_tuple) (pv 2)))))), ?_⟩
  try dsimp only [L2.cxOf]
  refine st_set (i := 2) (ev_lstRg (ev_var rfl) (by omega)) S fun σ1 G1 H1 e1 S1 => ?_
  dsimp only
  refine st_for (ι := Nat) (ei_tup (ev_var rfl)) S1 (fun i a => a = i ∧ i ≤ ps.length) (fun i => [some (rTup (ps.map rP)), some (rN_ n), some (rLst ((kept (ps.take i) (List.range n)).map rN_)), none, none]) (fun _ => []) 0 ⟨rfl, Nat.zero_le _⟩ (fun B σ G H S => S) (fun B1 G2 H2 i r a σ3 G3 H3 e2 hr ha e3 hl un sm S3 => ?_) (fun a σ3 G3 H3 ha e2 S3 => ?_)
  · obtain ⟨rfl, hi⟩ := ha
    rw [List.getElem?_map] at hr
    cases hq : ps[a]? with
    | none => rw [hq] at hr; cases hr
    | some p =>
      rw [hq] at hr
      cases hr
      have pok : p.ok := h1.1 p (List.mem_of_getElem? hq)
      have hlt : a < ps.length := (List.getElem?_eq_some_iff.mp hq).1
      have hk : (kept (ps.take a) (List.range n)).length ≤ n := by have := kept_le (ps.take a) (List.range n); rwa [List.length_range] at this
      refine ⟨_, [3], gm_name (by simp), fun σ4 G4 H4 e4 S4 => ?_⟩
      refine st_set (i := 2) (r := rLst ((kept (ps.take (a + 1)) (List.range n)).map rN_)) (ms1 := []) ?_ S4 fun σ5 G5 H5 e5 S5 => ?_
      · refine ev_is (ev_lcA (pickI p (kept (ps.take a) (List.range n)).length) (f := fun i => rN_ i) (e := fun i => rN_ ((kept (ps.take a) (List.range n)).getD i 0)) (ei_list (ev_call (p, (kept (ps.take a) (List.range n)).length) (ea_cons (ev_var rfl) (ea_cons (ev_is (ev_cb (ea_cons (ev_var rfl) ea_nil) rc_lenL) (by rw [List.length_map])) ea_nil)) ⟨pok, by show (kept (ps.take a) (List.range n)).length ≤ 1000; omega⟩)) ?_ (fun i hi => gm_name (by simp)) fun i hi B => ?_) ?_
        · have := pickI_le p (kept (ps.take a) (List.range n)).length
          omega
        · have hi2 : i < (kept (ps.take a) (List.range n)).length := List.mem_range.mp (List.mem_filter.mp hi).1
          refine ev_op (ev_var rfl) (ev_var rfl) (rv_ixL (k := i) rfl ?_)
          rw [List.getElem?_map, List.getElem?_eq_getElem hi2]
          simp [List.getD, List.getElem?_eq_getElem hi2]
        · rw [List.take_add_one, hq]
          show rLst _ = rLst ((kept (ps.take a ++ [p]) (List.range n)).map rN_)
          rw [kept_snoc, ← pick_get, List.map_map]
          rfl
      · exact ⟨a + 1, G5, ⟨rfl, hlt⟩, S5.weak (by repeat' constructor)⟩
  · obtain ⟨rfl, _⟩ := ha
    rw [List.length_map, List.take_length] at S3
    refine st_ret (r := rNs (kept ps (List.range n))) (ms1 := []) (ev_tupOfL (ev_var rfl)) S3 fun v G' H' e S' hv => k _ _ G' H' S' v hv
end
end K62
set_option maxHeartbeats 4000000
/-! K62De: cutters. -/
namespace K62
open PySem PySem.Spec PyProof.Rows L2
local macro_rules | `(tactic| walk_at "ev") => `(tactic| repeat' (first
  | ((with_reducible apply ev_var); exact rfl)
  | with_reducible exact ev_c
  | with_reducible exact ea_nil
  | with_reducible exact et_yes
  | with_reducible exact rv_I0
  | with_reducible exact eo_none
  | with_reducible apply eo_some
  | with_reducible apply ea_cons
  | with_reducible apply ev_op
  | (with_reducible apply ev_andV <;> try intro _)
  | (with_reducible apply ev_orV <;> try intro _)
  | with_reducible apply ev_notV
  | with_reducible apply ev_tup
  | with_reducible apply ev_lst
  | with_reducible apply ev_neg
  | with_reducible apply ev_cb
  | with_reducible apply et_B
  | with_reducible apply et_val
  | with_reducible apply et_not
  | (with_reducible apply et_and <;> try intro _)
  | (with_reducible apply et_or <;> try intro _)
  | with_reducible apply ev_call
  | with_reducible apply ev_fld
  | with_reducible exact cls_Cutter (by assumption)
  | with_reducible exact cls_Rule (by assumption)
  | with_reducible exact cls_Page (by assumption)
  | with_reducible exact cls_Inbox (by assumption)
  | with_reducible exact na_parts (by assumption)
  | with_reducible exact na_tables (by assumption)
  | with_reducible exact na_whole (by assumption)
  | with_reducible exact na_cutter (by assumption)
  | with_reducible exact na_sees (by assumption)
  | with_reducible exact na_rule (by assumption)
  | with_reducible exact na_pmarks (by assumption)
  | with_reducible exact na_letters (by assumption)
  | with_reducible exact na_bound (by assumption)
  | with_reducible exact na_shown (by assumption)
  | with_reducible exact na_moves (by assumption)
  | with_reducible exact na_near (by assumption)
  | with_reducible exact na_groups (by assumption)
  | with_reducible exact na_pages (by assumption)
  | with_reducible exact na_version (by assumption)
  | with_reducible exact na_marks (by assumption)
  | with_reducible exact isi_str (by assumption)
  | with_reducible exact isi_int (by assumption)
  | with_reducible exact isi_intbool (by assumption)
  | with_reducible exact isi_bool (by assumption)
  | with_reducible exact isi_tup (by assumption)
  | with_reducible exact isi_Cutter (by assumption)
  | with_reducible exact isi_Rule (by assumption)
  | with_reducible exact isi_Inbox (by assumption)
  | with_reducible exact rc_lenT
  | with_reducible exact rc_lenL
  | with_reducible apply rc_lenS
  | with_reducible exact rc_abs
  | with_reducible exact rc_max
  | with_reducible exact rc_min
  | with_reducible exact rc_int
  | with_reducible exact rc_intB
  | with_reducible exact rv_inSign
  | with_reducible exact rv_inT
  | with_reducible exact rv_inL
  | with_reducible exact rv_ninL
  | with_reducible exact rv_ixT0
  | with_reducible exact rv_ixT1
  | with_reducible exact rv_ixT2
  | with_reducible exact rv_ixT3
  | with_reducible exact rv_ixL0
  | with_reducible exact rv_ixL1
  | with_reducible exact rv_ixL2))
/-! ### data -/
def Da (k : Nat) (d : PyData) : Prop := d.canLay0 = true ∧ d.depth ≤ k
theorem da_all {k : Nat} : ∀ {l : List PyData}, (∀ d ∈ l, Da k d) → PyData.canLayAll0 l = true ∧ PyData.depthAll l ≤ k
  | [], _ => ⟨rfl, Nat.zero_le _⟩
  | d :: l, h => by
    obtain ⟨h1, h2⟩ := h d List.mem_cons_self
    obtain ⟨h3, h4⟩ := da_all (l := l) fun e he => h e (List.mem_cons_of_mem _ he)
    constructor
    · simp only [PyData.canLayAll0, h1, h3, Bool.and_self]
    · simp only [PyData.depthAll]; omega
theorem da_tup {k : Nat} {l : List PyData} (h : ∀ d ∈ l, Da k d) : Da (k + 1) (.tuple l) := by
  obtain ⟨h1, h2⟩ := da_all h
  refine ⟨by simp only [PyData.canLay0]; exact h1, by simp only [PyData.depth]; omega⟩
theorem da_lst {k : Nat} {l : List PyData} (h : ∀ d ∈ l, Da k d) : Da (k + 1) (.list l) := by
  obtain ⟨h1, h2⟩ := da_all h
  refine ⟨by simp only [PyData.canLay0]; exact h1, by simp only [PyData.depth]; omega⟩
theorem da_int {i : Int} : Da 0 (.int i) := ⟨by simp only [PyData.canLay0], by simp only [PyData.depth]; omega⟩
theorem da_bl {i : Bool} : Da 0 (.bool i) := ⟨by simp only [PyData.canLay0], by simp only [PyData.depth]; omega⟩
theorem da_non : Da 0 .none := ⟨by simp only [PyData.canLay0], by simp only [PyData.depth]; omega⟩
theorem Da.up {j k : Nat} {d : PyData} (h : Da j d) (e : j ≤ k) : Da k d := ⟨h.1, Nat.le_trans h.2 e⟩
theorem da_map {α : Type} {k : Nat} {f : α → PyData} {l : List α} (h : ∀ a ∈ l, Da k (f a)) : ∀ d ∈ l.map f, Da k d := fun d hd => by
  obtain ⟨a, ha, rfl⟩ := List.mem_map.mp hd
  exact h a ha
theorem Da.shaped {k : Nat} {d : PyData} (h : Da k d) (e : k ≤ 64) : SeqAt.shaped d = true := by
  unfold SeqAt.shaped
  rw [h.1, decide_eq_true (Nat.le_trans h.2 e)]
  rfl
theorem da_ints {ns : List Int} : Da 1 (dNs ns) := da_tup (da_map fun _ _ => da_int)
theorem eqvAll_map {α : Type} [DecidableEq α] {f : α → PyData} (h : ∀ a b, PyData.eqv (f a) (f b) = decide (a = b)) : ∀ l m : List α, PyData.eqvAll (l.map f) (m.map f) = decide (l = m)
  | [], [] => by simp [PyData.eqvAll]
  | [], _ :: _ => by simp [PyData.eqvAll]
  | _ :: _, [] => by simp [PyData.eqvAll]
  | a :: l, b :: m => by
    rw [List.map_cons, List.map_cons]
    simp only [PyData.eqvAll]
    rw [h, eqvAll_map h l m, ← Bool.decide_and]
    exact decide_eq_decide.mpr (by simp)
theorem eqv_tup {α : Type} [DecidableEq α] {f : α → PyData} (h : ∀ a b, PyData.eqv (f a) (f b) = decide (a = b)) (l m : List α) : PyData.eqv (.tuple (l.map f)) (.tuple (m.map f)) = decide (l = m) := by
  simp only [PyData.eqv]
  exact eqvAll_map h l m
theorem eqv_int (a b : Int) : PyData.eqv (.int a) (.int b) = decide (a = b) := by simp only [PyData.eqv]; exact Bool.eq_iff_iff.mpr (by simp)
theorem eqv_nat (a b : Nat) : PyData.eqv (.int (a : Int)) (.int (b : Int)) = decide (a = b) := by rw [eqv_int]; exact decide_eq_decide.mpr (by omega)
theorem eqv_ints (ns ms : List Int) : PyData.eqv (dNs ns) (dNs ms) = decide (ns = ms) := eqv_tup eqv_int ns ms
def dNats (ns : List Nat) : PyData := .tuple (ns.map fun (n : Nat) => .int (n : Int))
def dTabs (ps : List Pt) : PyData := .tuple ((tabs ps).map dNats)
theorem dat_tabs {K : Fr} {ps : List Pt} : Dat K (rTabs ps) (dTabs ps) := dat_tup (paired_map fun t _ => dat_tup (paired_map fun _ _ => dat_int))
theorem da_tabs {ps : List Pt} : Da 2 (dTabs ps) := da_tup (da_map fun t _ => da_tup (da_map fun _ _ => da_int))
theorem eqv_tabs (ps qs : List Pt) : PyData.eqv (dTabs ps) (dTabs qs) = decide (tabs ps = tabs qs) := eqv_tup (eqv_tup eqv_nat) (tabs ps) (tabs qs)
theorem putR_new {f : Str} {r : Rp} : ∀ {fs : List (Str × Rp)}, fs.lookup f = none → putR f r fs = fs ++ [(f, r)]
  | [], _ => rfl
  | (g, x) :: t, h => by
    rw [List.lookup_cons] at h
    show (if g = f then _ else _) = _
    cases q : f == g with
    | true => rw [q] at h; cases h
    | false =>
      rw [q] at h
      rw [if_neg (fun e => by rw [e] at q; simp at q), putR_new h]
      rfl
section
variable {B : Bs} {L : List Addr} {ctx : Ct} {ms ms1 ms2 : Ms} {te ta : TE} {tl : TA} {r : Rp} {K : PySem.W.Frag}
/-- .. a field that was not there -/
theorem st_fldN {D : Ends} {σ : L2.St} {G H : Hp} {C dx a : Addr} {fs : List (Str × Rp)} {f : Str} {j : Nat} (h : EvM B L te ctx ms r ms1) (ho : EvM B L ta ctx ms1 (rV (.ref a)) ms2) (hj : ms2[j]? = some (a, .ins C dx fs)) (c : Cls K C) (n : NoAttr K C f) (hl : fs.length < 100) (hf : fs.lookup f = none) (S : Sx B L ctx ms σ G H)
    (k : ∀ G' H', Same G G' → Sx B L ctx (ms2.set j (a, .ins C dx (fs ++ [(f, r)]))) σ G' H' → D.nx σ H') : sFld K ta te f D σ H := st_fldM h ho hj c n hl S (by rw [putR_new hf]; exact k)
theorem ea_is {rs ss : List Rp} (h : EvA B L tl ctx ms rs ms1) (e : rs = ss) : EvA B L tl ctx ms ss ms1 := e ▸ h
theorem ty_ins {C : Addr} {fs : List (Str × Rp)} {G H : Hp} {y : V} (x : ExL L G H) (h : (rIns C fs).ok y G) : TyE H y (.ref C) := by
  obtain ⟨a, dx, gs, rfl, ha, _⟩ := h
  exact .inl ⟨C, dx, gs, x.ins ha, rfl⟩
theorem rv_eqO {α : Type} {pre : α → List Addr → Prop} {ar : α → List Rp} {res : α → Rp} {C : Addr} {fs fs' : List (Str × Rp)} {E : XK} (x : α) (hp : pre x L) (hx : ar x = [rIns C fs, rIns C fs']) (hn : PySem.W.notFirst K C (.ref C) = true) : RvM B L (rEqO K C (spP pre ar res) E) (rIns C fs) (rIns C fs') ctx ms (res x) ms := fun σ G H v w S hv hw Q k => by
  obtain ⟨a, dx, gs, rfl, ha, hal⟩ := id hv
  exact ⟨a, dx, gs, _, rfl, S.ex.ins ha, ty_ins S.ex hw, hn, x, L, hp, pr_use0 S (by rw [hx]; exact .cons hv (.cons hw .nil)) k⟩
theorem rv_neO {α : Type} {pre : α → List Addr → Prop} {ar : α → List Rp} {res : α → Rp} {C : Addr} {fs fs' : List (Str × Rp)} {E : XK} {b : Bool} (x : α) (hp : pre x L) (hx : ar x = [rIns C fs, rIns C fs']) (hb : res x = rB b) (hn : PySem.W.notFirst K C (.ref C) = true) : RvM B L (rNeO K C (spP pre ar res) E) (rIns C fs) (rIns C fs') ctx ms (rB (!b)) ms := fun σ G H v w S hv hw Q k => by
  obtain ⟨a, dx, gs, rfl, ha, hal⟩ := id hv
  exact ⟨a, dx, gs, _, rfl, S.ex.ins ha, ty_ins S.ex hw, hn, x, L, hp, pr_use0 S (by rw [hx]; exact .cons hv (.cons hw .nil)) fun z G' H' e S' hz => by
    rw [hb] at hz
    exact ⟨b, hz, k _ G' H' e S' rfl⟩⟩
end
section
variable {P : Program} {w : World} {K : PySem.W.Frag} {mg : Str → Option Value} {base : Heap}
abbrev spKeptPl : Sp := spP (fun (x : List Pt × Nat) _ => okPs x.1 ∧ x.2 ≤ 12) (fun x => [rCut K x.1, rN_ x.2]) (fun x => rNs (kept x.1 (List.range x.2)))
theorem whole_eq {p : Pt} (h : p.ok) : decide (V.str p.str = V.str "all") = (p == .all) := by
  cases p with
  | all => exact (show decide (V.str Pt.all.str = V.str "all") = true by decide +kernel).trans (by simp)
  | pat f b => rw [pat_ne h]; simp
theorem sc_kept_places : FnScope ["cutter", "many", "place"] ["cutter", "many"] (defScope s_kept_places) := ⟨rfl, rfl, rfl, by decide +kernel, rfl, by decide +kernel, by decide +kernel⟩
theorem cl_kept_places (T : Tx P w K mg base) : Cl P w K mg base 1 "kept_places" (spKeptPl (K := K)) := by
  obtain ⟨fd, F⟩ := T.def_ di_kept_places
  refine ⟨_, T.glo fi_glo_kept_places, F.kp, fnR_of F sc_kept_places (fun _ => rfl) (fun _ _ _ _ _ _ us hl => match us, hl with | [_, _], _ => rfl) fun cdv A outer s H0 vs Q E hr z L G hp k S => ?_⟩
  obtain ⟨ps, n⟩ := z
  have h1 : okPs ps := hp.1
  have h2 : n ≤ 12 := hp.2
  have hpl := places_eq h1.1 h2
  unfold places at hpl
  refine ⟨_, (pss_cons (ps_if (pt_cmpR op_le (pv 1) (pe_gint (T.int fi_int_FEW)) (nomark _)) (pss_one (ps_ret (pe_ix (ix_tupK (K := K)) (pe_fldK (K := K) (pv 0) rfl) (pv 1) (fun _ _ => rfl)))) pss_nil)
    (pss_cons (ps_if (pt_val (pe_fldK (K := K) (pv 0) rfl)) (pss_one (ps_ret (pe_tupRg rfl (by rfl) (T.free fi_free_tuple) (prg_1 (by rfl) (T.free fi_free_range) (pv 1))))) pss_nil)
    (pss_one (ps_ret (pe_tupleK (K := K) (by rfl) (T.free fi_free_tuple) (pe_lc (own := [("place", 2)]) rfl sc_kept_places.nd (pi_tupK (K := K) (pe_ix (ix_tupK (K := K)) (pe_fldK (K := K) (pv 0) rfl) (pe_gint (T.int fi_int_FEW)) (fun _ _ => rfl))) (blkOk_by (own := [("place", 2)]) (N := ["cutter", "many", "place"]) (sc := defScope s_kept_places) (by decide +kernel)) (fun _ _ _ _ _ => (pg_name (i := 2) sc_kept_places.nd rfl (Or.inl rfl) (Or.inr rfl))) (fun _ _ _ _ _ => pts_nil) (fun _ _ _ _ _ => (pe_ifExp (pt_cmpR op_lt (pv 2) (pe_gint (T.int fi_int_MOST_FRONT)) (nomark _)) (pv 2) (pe_op op_add (pe_op op_sub (pv 1) (pe_gint (T.int fi_int_FEW))) (pv 2)))))))))), ?_⟩
  try dsimp only [L2.cxOf]
  refine st_ifV (b := decide ((n : Int) ≤ 5)) (et_val (ev_op (ev_var rfl) ev_c rv_I0)) S fun G1 H1 e1 S1 => ⟨fun hb => ?_, fun hb => ?_⟩
  · have h5 : n ≤ 5 := by have := of_decide_eq_true hb; omega
    refine st_ret (r := rNs (kept ps (List.range n))) (ms1 := []) ?_ S1 fun v G' H' e S' hv => k _ _ G' H' S' v hv
    refine ev_op (ev_fld (ev_var rfl) (cls_Cutter T) (na_tables T) rfl) (ev_var rfl) (rv_ixT (k := n) rfl ?_)
    rw [List.getElem?_map]
    unfold tabs
    rw [List.getElem?_map, List.getElem?_range (by omega)]
    rfl
  · have h5 : ¬ n ≤ 5 := by have := of_decide_eq_false hb; omega
    rw [if_neg h5] at hpl
    dsimp only [tNext]
    refine st_ifV (b := whole ps) (et_B (ev_fld (ev_var rfl) (cls_Cutter T) (na_whole T) rfl)) S1 fun G2 H2 e2 S2 => ⟨fun hw => ?_, fun hw => ?_⟩
    · rw [hw, if_pos rfl] at hpl
      refine st_ret (r := rNs (List.range n)) (ms1 := []) (ev_tupRg (ev_var rfl) (by omega)) S2 fun v G' H' e S' hv => k _ _ G' H' S' v (by show (rNs (kept ps (List.range n))).ok v G'; rw [← hpl]; exact hv)
    · rw [hw, if_neg (by simp)] at hpl
      dsimp only [tNext]
      refine st_ret (r := rNs ((kept ps (List.range 5)).map (sh n))) (ms1 := []) ?_ S2 fun v G' H' e S' hv => k _ _ G' H' S' v (by show (rNs (kept ps (List.range n))).ok v G'; rw [← hpl]; exact hv)
      refine ev_is (ev_tupOfL (ev_lcA (kept ps (List.range 5)) (f := fun i => rN_ i) (e := fun i => rN_ (sh n i)) (ei_tup (ev_op (ev_fld (ev_var rfl) (cls_Cutter T) (na_tables T) rfl) ev_c (rv_ixT (k := 5) rfl rfl))) ?_ (fun i hi => gm_name (by simp)) fun i hi B => ?_)) ?_
      · have := kept_le ps (List.range 5)
        rw [List.length_range] at this
        omega
      · refine ev_if (b := decide ((i : Int) < 2)) (et_val (ev_op (ev_var rfl) ev_c rv_I0)) (fun hb => ?_) (fun hb => ?_)
        · have : i < 2 := by have := of_decide_eq_true hb; omega
          exact ev_is (ev_var rfl) (by unfold sh; rw [if_pos this])
        · have : ¬ i < 2 := by have := of_decide_eq_false hb; omega
          refine ev_is (ev_op (ev_op (ev_var rfl) ev_c rv_I0) (ev_var rfl) rv_I0) ?_
          show rI ((n : Int) - 5 + i) = rI ((sh n i : Nat) : Int)
          unfold sh
          rw [if_neg this]
          congr 1
          omega
      · unfold rNs; rw [List.map_map]; rfl
abbrev spCutRow : Sp := spP (fun (x : List Pt × List Int) _ => okPs x.1 ∧ x.2.length ≤ 12) (fun x => [rCut K x.1, rInts x.2]) (fun x => rInts (kept x.1 x.2))
theorem sc_cut : FnScope ["cutter", "row", "place"] ["cutter", "row"] (defScope s_cut) := ⟨rfl, rfl, rfl, by decide +kernel, rfl, by decide +kernel, by decide +kernel⟩
theorem cl_cut (T : Tx P w K mg base) : Cl P w K mg base 2 "cut" (spCutRow (K := K)) := by
  obtain ⟨fd, F⟩ := T.def_ di_cut
  refine ⟨_, T.glo fi_glo_cut, F.kp, fnR_of F sc_cut (fun _ => rfl) (fun _ _ _ _ _ _ us hl => match us, hl with | [_, _], _ => rfl) fun cdv A outer s H0 vs Q E hr z L G hp k S => ?_⟩
  have c_kept_places := cl_kept_places T
  obtain ⟨ps, row⟩ := z
  have h1 : okPs ps := hp.1
  have h2 : row.length ≤ 12 := hp.2
  refine ⟨_, (pss_one (ps_ret (pe_tupleK (K := K) (by rfl) (T.free fi_free_tuple) (pe_lc (own := [("place", 2)]) rfl sc_cut.nd (pi_tupK (K := K) (pe_callR c_kept_places hr (by decide) (by rfl) (pa_cons (pv 0) (pa_cons (pe_callB (id := "len") (call_lenK (K := K)) (by rfl) (T.free fi_free_len) (by decide +kernel) (pa_cons (pv 1) pa_nil)) pa_nil)))) (blkOk_by (own := [("place", 2)]) (N := ["cutter", "row", "place"]) (sc := defScope s_cut) (by decide +kernel)) (fun _ _ _ _ _ => (pg_name (i := 2) sc_cut.nd rfl (Or.inl rfl) (Or.inr rfl))) (fun _ _ _ _ _ => pts_nil) (fun _ _ _ _ _ => (pe_ix (ix_tupK (K := K)) (pv 1) (pv 2) (fun _ _ => rfl))))))), ?_⟩
  try dsimp only [L2.cxOf]
  refine st_ret (r := rInts (kept ps row)) (ms1 := []) ?_ S fun v G' H' e S' hv => k _ _ G' H' S' v hv
  have hlen : (row.map rI).length = row.length := List.length_map _
  refine ev_is (ev_tupOfL (ev_lcA (kept ps (List.range row.length)) (f := fun i => rN_ i) (e := fun i => rI (row.getD i default)) (ei_tup (ev_call (ps, row.length) (ea_cons (ev_var rfl) (ea_cons (ev_is (ev_cb (ea_cons (ev_var rfl) ea_nil) rc_lenT) (by rw [hlen])) ea_nil)) ⟨h1, h2⟩)) ?_ (fun i hi => gm_name (by simp)) fun i hi B => ?_)) ?_
  · have := kept_le ps (List.range row.length)
    rw [List.length_range] at this
    omega
  · have hi2 : i < row.length := by
      have sub : ∀ (qs : List Pt) (xs : List Nat) (i : Nat), i ∈ kept qs xs → i ∈ xs := fun qs => by
        induction qs with
        | nil => intro xs i h; exact h
        | cons q qs ih =>
          intro xs i h
          have h3 := ih (pick q xs) i h
          unfold pick at h3
          obtain ⟨j, _, hj⟩ := List.mem_filterMap.mp h3
          exact List.mem_of_getElem? hj
      exact List.mem_range.mp (sub _ _ _ hi)
    refine ev_op (ev_var rfl) (ev_var rfl) (rv_ixT (k := i) rfl ?_)
    rw [List.getElem?_map, List.getElem?_eq_getElem hi2]
    simp [List.getD, List.getElem?_eq_getElem hi2]
  · rw [map_map_rI, kept_row ps row]
abbrev spReqC : Sp := spP (fun (x : List Pt) _ => True) (fun x => [rCut K x]) (fun _ => rN)
theorem sc_require_cutter : FnScope ["value"] ["value"] (defScope s_require_cutter) := ⟨rfl, rfl, rfl, by decide +kernel, rfl, by decide +kernel, by decide +kernel⟩
theorem cl_require_cutter (T : Tx P w K mg base) : Cl P w K mg base 1 "require_cutter" (spReqC (K := K)) := by
  obtain ⟨fd, F⟩ := T.def_ di_require_cutter
  refine ⟨_, T.glo fi_glo_require_cutter, F.kp, fnR_of F sc_require_cutter (fun _ => rfl) (fun _ _ _ _ _ _ us hl => match us, hl with | [_], _ => rfl) fun cdv A outer s H0 vs Q E hr ps L G hp k S => ?_⟩
  refine ⟨_, (pss_one (ps_if (pt_not (pt_val (pe_callB (id := "isinstance") (call_isiK (K := K)) (by rfl) (T.free fi_free_isinstance) (by decide +kernel) (pa_cons (pv 0) (pa_cons (pe_glob (v := .ref (He.ga K "Cutter")) rfl (T.glo fi_glo_Cutter) rfl) pa_nil))))) (pss_one ps_never) pss_nil)), ?_⟩
  try dsimp only [L2.cxOf]
  refine st_ifF (et_b (c := false) (et_not (et_B (ev_cb (ea_cons (ev_var rfl) (ea_cons ev_c ea_nil)) (isi_Cutter T)))) rfl) S fun G1 H1 e1 S1 => ?_
  exact k _ _ G1 H1 S1 .non rfl
abbrev spReqR : Sp := spP (fun (x : List Pt × Bool) _ => True) (fun x => [rRule K x.1 x.2]) (fun _ => rN)
theorem sc_require_rule : FnScope ["value"] ["value"] (defScope s_require_rule) := ⟨rfl, rfl, rfl, by decide +kernel, rfl, by decide +kernel, by decide +kernel⟩
theorem cl_require_rule (T : Tx P w K mg base) : Cl P w K mg base 1 "require_rule" (spReqR (K := K)) := by
  obtain ⟨fd, F⟩ := T.def_ di_require_rule
  refine ⟨_, T.glo fi_glo_require_rule, F.kp, fnR_of F sc_require_rule (fun _ => rfl) (fun _ _ _ _ _ _ us hl => match us, hl with | [_], _ => rfl) fun cdv A outer s H0 vs Q E hr z L G hp k S => ?_⟩
  refine ⟨_, (pss_one (ps_if (pt_not (pt_val (pe_callB (id := "isinstance") (call_isiK (K := K)) (by rfl) (T.free fi_free_isinstance) (by decide +kernel) (pa_cons (pv 0) (pa_cons (pe_glob (v := .ref (He.ga K "Rule")) rfl (T.glo fi_glo_Rule) rfl) pa_nil))))) (pss_one ps_never) pss_nil)), ?_⟩
  try dsimp only [L2.cxOf]
  refine st_ifF (et_b (c := false) (et_not (et_B (ev_cb (ea_cons (ev_var rfl) (ea_cons ev_c ea_nil)) (isi_Rule T)))) rfl) S fun G1 H1 e1 S1 => ?_
  exact k _ _ G1 H1 S1 .non rfl
abbrev spCutParts : Sp := spP (fun (x : List Pt) _ => True) (fun x => [rCut K x]) (fun x => rTup (x.map rP))
theorem sc_Cutter_parts : FnScope ["self"] ["self"] (defScope s_Cutter_parts) := ⟨rfl, rfl, rfl, by decide +kernel, rfl, by decide +kernel, by decide +kernel⟩
theorem pp_Cutter_parts (T : Tx P w K mg base) : Pp P w K mg base 1 (He.ga K "Cutter") "parts" (spCutParts (K := K)) := by
  obtain ⟨fd, F⟩ := T.def_ di_Cutter_parts
  refine ⟨_, _, prop_of (T.fact fi_prop_Cutter_parts), fnR_of F sc_Cutter_parts (fun _ => rfl) (fun _ _ _ _ _ _ us hl => match us, hl with | [_], _ => rfl) fun cdv A outer s H0 vs Q E hr ps L G hp k S => ?_⟩
  refine ⟨_, (pss_one (ps_ret (pe_fldK (K := K) (pv 0) rfl))), ?_⟩
  try dsimp only [L2.cxOf]
  exact st_ret (ms1 := []) (ev_fld (ev_var rfl) (cls_Cutter T) (na_parts T) rfl) S fun v G' H' e S' hv => k _ _ G' H' S' v hv
abbrev spCutEq : Sp := spP (fun (x : List Pt × List Pt) _ => True) (fun x => [rCut K x.1, rCut K x.2]) (fun x => rB (decide (tabs x.1 = tabs x.2) && decide (whole x.1 = whole x.2)))
theorem sc_Cutter_eq : FnScope ["self", "other"] ["self", "other"] (defScope s_Cutter_eq) := ⟨rfl, rfl, rfl, by decide +kernel, rfl, by decide +kernel, by decide +kernel⟩
theorem ow_Cutter_eq (T : Tx P w K mg base) : Ow P w K mg base 1 (He.ga K "Cutter") "__eq__" (spCutEq (K := K)) := by
  obtain ⟨fd, F⟩ := T.def_ di_Cutter_eq
  refine ⟨_, (own_of (T.fact fi_own_Cutter__eq_)).1, (own_of (T.fact fi_own_Cutter__eq_)).2.1, (own_of (T.fact fi_own_Cutter__eq_)).2.2, fnR_of F sc_Cutter_eq (fun _ => rfl) (fun _ _ _ _ _ _ us hl => match us, hl with | [_, _], _ => rfl) fun cdv A outer s H0 vs Q E hr z L G hp k S => ?_⟩
  obtain ⟨ps, qs⟩ := z
  refine ⟨_, (pss_cons (ps_if (pt_not (pt_val (pe_callB (id := "isinstance") (call_isiK (K := K)) (by rfl) (T.free fi_free_isinstance) (by decide +kernel) (pa_cons (pv 1) (pa_cons (pe_glob (v := .ref (He.ga K "Cutter")) rfl (T.glo fi_glo_Cutter) rfl) pa_nil))))) (pss_one (ps_ret pe_bl)) pss_nil)
    (pss_one (ps_ret (pe_and (pe_cmpR (op_eqDK (K := K) hr.units) (pe_fldK (K := K) (pv 0) rfl) (pe_fldK (K := K) (pv 1) rfl) (nomark _)) (pe_one (pe_cmpR op_eq (pe_fldK (K := K) (pv 0) rfl) (pe_fldK (K := K) (pv 1) rfl) (nomark _))))))), ?_⟩
  try dsimp only [L2.cxOf]
  refine st_ifF (et_b (c := false) (et_not (et_B (ev_cb (ea_cons (ev_var rfl) (ea_cons ev_c ea_nil)) (isi_Cutter T)))) rfl) S fun G1 H1 e1 S1 => ?_
  dsimp only [tNext]
  refine st_ret (r := rB (decide (tabs ps = tabs qs) && decide (whole ps = whole qs))) (ms1 := []) ?_ S1 fun v G' H' e S' hv => k _ _ G' H' S' v hv
  refine ev_andV (ev_b (ev_op (ev_fld (ev_var rfl) (cls_Cutter T) (na_tables T) rfl) (ev_fld (ev_var rfl) (cls_Cutter T) (na_tables T) rfl) (rv_eqD dat_tabs dat_tabs (da_tabs.shaped (by omega)) (da_tabs.shaped (by omega)))) (eqv_tabs ps qs)) fun _ => ?_
  refine ev_b (ev_op (ev_fld (ev_var rfl) (cls_Cutter T) (na_whole T) rfl) (ev_fld (ev_var rfl) (cls_Cutter T) (na_whole T) rfl) (rv_eq rfl)) ?_
  exact decide_eq_decide.mpr ⟨fun h => V.bl.inj h, fun h => congrArg V.bl h⟩
abbrev spRuleCut : Sp := spP (fun (x : List Pt × Bool) _ => True) (fun x => [rRule K x.1 x.2]) (fun x => rCut K x.1)
theorem sc_Rule_cutter : FnScope ["self"] ["self"] (defScope s_Rule_cutter) := ⟨rfl, rfl, rfl, by decide +kernel, rfl, by decide +kernel, by decide +kernel⟩
theorem pp_Rule_cutter (T : Tx P w K mg base) : Pp P w K mg base 1 (He.ga K "Rule") "cutter" (spRuleCut (K := K)) := by
  obtain ⟨fd, F⟩ := T.def_ di_Rule_cutter
  refine ⟨_, _, prop_of (T.fact fi_prop_Rule_cutter), fnR_of F sc_Rule_cutter (fun _ => rfl) (fun _ _ _ _ _ _ us hl => match us, hl with | [_], _ => rfl) fun cdv A outer s H0 vs Q E hr z L G hp k S => ?_⟩
  refine ⟨_, (pss_one (ps_ret (pe_fldK (K := K) (pv 0) rfl))), ?_⟩
  try dsimp only [L2.cxOf]
  exact st_ret (ms1 := []) (ev_fld (ev_var rfl) (cls_Rule T) (na_cutter T) rfl) S fun v G' H' e S' hv => k _ _ G' H' S' v hv
abbrev spRuleSees : Sp := spP (fun (x : List Pt × Bool) _ => True) (fun x => [rRule K x.1 x.2]) (fun x => rB x.2)
theorem sc_Rule_sees_lost : FnScope ["self"] ["self"] (defScope s_Rule_sees_lost) := ⟨rfl, rfl, rfl, by decide +kernel, rfl, by decide +kernel, by decide +kernel⟩
theorem pp_Rule_sees_lost (T : Tx P w K mg base) : Pp P w K mg base 1 (He.ga K "Rule") "sees_lost" (spRuleSees (K := K)) := by
  obtain ⟨fd, F⟩ := T.def_ di_Rule_sees_lost
  refine ⟨_, _, prop_of (T.fact fi_prop_Rule_sees_lost), fnR_of F sc_Rule_sees_lost (fun _ => rfl) (fun _ _ _ _ _ _ us hl => match us, hl with | [_], _ => rfl) fun cdv A outer s H0 vs Q E hr z L G hp k S => ?_⟩
  refine ⟨_, (pss_one (ps_ret (pe_fldK (K := K) (pv 0) rfl))), ?_⟩
  try dsimp only [L2.cxOf]
  exact st_ret (ms1 := []) (ev_fld (ev_var rfl) (cls_Rule T) (na_sees T) rfl) S fun v G' H' e S' hv => k _ _ G' H' S' v hv
def sameR (ps : List Pt) (s : Bool) (qs : List Pt) (t : Bool) : Bool := (decide (tabs ps = tabs qs) && decide (whole ps = whole qs)) && decide (s = t)
abbrev spRuleEq : Sp := spP (fun (x : (List Pt × Bool) × (List Pt × Bool)) _ => True) (fun x => [rRule K x.1.1 x.1.2, rRule K x.2.1 x.2.2]) (fun x => rB (sameR x.1.1 x.1.2 x.2.1 x.2.2))
theorem sc_Rule_eq : FnScope ["self", "other"] ["self", "other"] (defScope s_Rule_eq) := ⟨rfl, rfl, rfl, by decide +kernel, rfl, by decide +kernel, by decide +kernel⟩
theorem ow_Rule_eq (T : Tx P w K mg base) : Ow P w K mg base 2 (He.ga K "Rule") "__eq__" (spRuleEq (K := K)) := by
  obtain ⟨fd, F⟩ := T.def_ di_Rule_eq
  refine ⟨_, (own_of (T.fact fi_own_Rule__eq_)).1, (own_of (T.fact fi_own_Rule__eq_)).2.1, (own_of (T.fact fi_own_Rule__eq_)).2.2, fnR_of F sc_Rule_eq (fun _ => rfl) (fun _ _ _ _ _ _ us hl => match us, hl with | [_, _], _ => rfl) fun cdv A outer s H0 vs Q E hr z L G hp k S => ?_⟩
  have o_Cutter_eq := ow_Cutter_eq T
  obtain ⟨⟨ps, s1⟩, ⟨qs, s2⟩⟩ := z
  refine ⟨_, (pss_cons (ps_if (pt_not (pt_val (pe_callB (id := "isinstance") (call_isiK (K := K)) (by rfl) (T.free fi_free_isinstance) (by decide +kernel) (pa_cons (pv 1) (pa_cons (pe_glob (v := .ref (He.ga K "Rule")) rfl (T.glo fi_glo_Rule) rfl) pa_nil))))) (pss_one (ps_ret pe_bl)) pss_nil)
    (pss_one (ps_ret (pe_and (pe_cmpR (op_eqK (K := K) o_Cutter_eq hr (by decide)) (pe_fldK (K := K) (pv 0) rfl) (pe_fldK (K := K) (pv 1) rfl) (nomark _)) (pe_one (pe_cmpR op_eq (pe_fldK (K := K) (pv 0) rfl) (pe_fldK (K := K) (pv 1) rfl) (nomark _))))))), ?_⟩
  try dsimp only [L2.cxOf]
  refine st_ifF (et_b (c := false) (et_not (et_B (ev_cb (ea_cons (ev_var rfl) (ea_cons ev_c ea_nil)) (isi_Rule T)))) rfl) S fun G1 H1 e1 S1 => ?_
  dsimp only [tNext]
  refine st_ret (r := rB (sameR ps s1 qs s2)) (ms1 := []) ?_ S1 fun v G' H' e S' hv => k _ _ G' H' S' v hv
  refine ev_andV (ev_op (ev_fld (ev_var rfl) (cls_Rule T) (na_cutter T) rfl) (ev_fld (ev_var rfl) (cls_Rule T) (na_cutter T) rfl) (rv_eqO (ps, qs) trivial rfl (T.fact fi_first_Cutter))) fun _ => ?_
  refine ev_b (ev_op (ev_fld (ev_var rfl) (cls_Rule T) (na_sees T) rfl) (ev_fld (ev_var rfl) (cls_Rule T) (na_sees T) rfl) (rv_eq rfl)) ?_
  exact decide_eq_decide.mpr ⟨fun h => V.bl.inj h, fun h => congrArg V.bl h⟩
end
end K62
set_option maxHeartbeats 4000000
/-! K62Df: cutters and rules made; arrivals. -/
namespace K62
open PySem PySem.Spec PyProof.Rows L2
local macro_rules | `(tactic| walk_at "ev") => `(tactic| repeat' (first
  | ((with_reducible apply ev_var); exact rfl)
  | with_reducible exact ev_c
  | with_reducible exact ea_nil
  | with_reducible exact et_yes
  | with_reducible exact rv_I0
  | with_reducible exact eo_none
  | with_reducible apply eo_some
  | with_reducible apply ea_cons
  | with_reducible apply ev_op
  | (with_reducible apply ev_andV <;> try intro _)
  | (with_reducible apply ev_orV <;> try intro _)
  | with_reducible apply ev_notV
  | with_reducible apply ev_tup
  | with_reducible apply ev_lst
  | with_reducible apply ev_neg
  | with_reducible apply ev_cb
  | with_reducible apply et_B
  | with_reducible apply et_val
  | with_reducible apply et_not
  | (with_reducible apply et_and <;> try intro _)
  | (with_reducible apply et_or <;> try intro _)
  | with_reducible apply ev_call
  | with_reducible apply ev_fld
  | with_reducible exact cls_Cutter (by assumption)
  | with_reducible exact cls_Rule (by assumption)
  | with_reducible exact cls_Page (by assumption)
  | with_reducible exact cls_Inbox (by assumption)
  | with_reducible exact na_parts (by assumption)
  | with_reducible exact na_tables (by assumption)
  | with_reducible exact na_whole (by assumption)
  | with_reducible exact na_cutter (by assumption)
  | with_reducible exact na_sees (by assumption)
  | with_reducible exact na_rule (by assumption)
  | with_reducible exact na_pmarks (by assumption)
  | with_reducible exact na_letters (by assumption)
  | with_reducible exact na_bound (by assumption)
  | with_reducible exact na_shown (by assumption)
  | with_reducible exact na_moves (by assumption)
  | with_reducible exact na_near (by assumption)
  | with_reducible exact na_groups (by assumption)
  | with_reducible exact na_pages (by assumption)
  | with_reducible exact na_version (by assumption)
  | with_reducible exact na_marks (by assumption)
  | with_reducible exact isi_str (by assumption)
  | with_reducible exact isi_int (by assumption)
  | with_reducible exact isi_intbool (by assumption)
  | with_reducible exact isi_bool (by assumption)
  | with_reducible exact isi_tup (by assumption)
  | with_reducible exact isi_Cutter (by assumption)
  | with_reducible exact isi_Rule (by assumption)
  | with_reducible exact isi_Inbox (by assumption)
  | with_reducible exact rc_lenT
  | with_reducible exact rc_lenL
  | with_reducible apply rc_lenS
  | with_reducible exact rc_abs
  | with_reducible exact rc_max
  | with_reducible exact rc_min
  | with_reducible exact rc_int
  | with_reducible exact rc_intB
  | with_reducible exact rv_inSign
  | with_reducible exact rv_inT
  | with_reducible exact rv_inL
  | with_reducible exact rv_ninL
  | with_reducible exact rv_ixT0
  | with_reducible exact rv_ixT1
  | with_reducible exact rv_ixT2
  | with_reducible exact rv_ixT3
  | with_reducible exact rv_ixL0
  | with_reducible exact rv_ixL1
  | with_reducible exact rv_ixL2))
theorem zip_up : ∀ {c : List Int} {m : Int}, (c ++ [m]).Pairwise (· < ·) → ∀ p ∈ c.zip (c.drop 1 ++ [m]), p.1 < p.2
  | [], _, _, p, hp => by simp at hp
  | [a], m, h, p, hp => by
    have : p = (a, m) := by simpa using hp
    subst this
    exact (List.pairwise_cons.mp h).1 m (by simp)
  | a :: b :: c, m, h, p, hp => by
    have e : (a :: b :: c).zip ((a :: b :: c).drop 1 ++ [m]) = (a, b) :: (b :: c).zip ((b :: c).drop 1 ++ [m]) := rfl
    rw [e] at hp
    rcases List.mem_cons.mp hp with z | z
    · subst z; exact (List.pairwise_cons.mp h).1 b (by simp)
    · exact zip_up (c := b :: c) (List.pairwise_cons.mp h).2 p z
theorem cutRs_1 {α : Type} {xs : List α} : cutRs xs (some 1) none = xs.drop 1 := by
  unfold cutRs
  have : HT.sIx xs.length 0 (some 1) = min 1 xs.length := HT.sIx_nat xs.length 0 1
  rw [this, HT.sIx_none]
  cases xs with
  | nil => rfl
  | cons a t => simp
section
variable {B : Bs} {L : List Addr} {ctx : Ct} {ms : Ms} {te ta : TE} {tl : TA} {r : Rp} {K : PySem.W.Frag} {D : Ends} {σ : L2.St} {G H : Hp}
/-- the cells stay as they are -/
theorem st_fldP {C dx a : Addr} {fs : List (Str × Rp)} {f : Str} (j : Nat) (h : EvM B L te ctx ms r ms) (ho : EvM B L ta ctx ms (rV (.ref a)) ms) (hj : ms[j]? = some (a, .ins C dx fs)) (c : Cls K C) (n : NoAttr K C f) (hl : fs.length < 100) (hf : fs.lookup f = none) (S : Sx B L ctx ms σ G H)
    (k : ∀ G' H', Same G G' → Sx B L ctx (ms.set j (a, .ins C dx (fs ++ [(f, r)]))) σ G' H' → D.nx σ H') : sFld K ta te f D σ H := st_fldN h ho hj c n hl hf S k
theorem st_setP {i : Nat} (r : Rp) (h : EvM B L te ctx ms r ms) (S : Sx B L ctx ms σ G H) (k : ∀ σ' G' H', Same G G' → Sx B L (ctx.set i (some r)) ms σ' G' H' → D.nx σ' H') : tAsg te (gName i) D σ H := st_set h S k
theorem st_retP (r : Rp) (h : EvM B L te ctx ms r ms) (S : Sx B L ctx ms σ G H) (k : ∀ v G' H', Same G G' → Sx B L ctx ms σ G' H' → r.ok v G' → D.rt v H') : tRet te D σ H := st_ret h S k
theorem st_ifP {tt : TT} {ts tw : TS} (b : Bool) (h : EvT B L tt ctx ms b ms) (S : Sx B L ctx ms σ G H) (k : ∀ G' H', Same G G' → Sx B L ctx ms σ G' H' → (b = true → ts D σ H') ∧ (b = false → tw D σ H')) : tIfS tt ts tw D σ H := st_ifV h S k
theorem st_ifFP {tt : TT} {ts tw : TS} (h : EvT B L tt ctx ms false ms) (S : Sx B L ctx ms σ G H) (k : ∀ G' H', Same G G' → Sx B L ctx ms σ G' H' → tw D σ H') : tIfS tt ts tw D σ H := st_ifF h S k
theorem st_dropP {r : Rp} (h : EvM B L te ctx ms r ms) (S : Sx B L ctx ms σ G H) (k : ∀ G' H', Same G G' → Sx B L ctx ms σ G' H' → D.nx σ H') : tDrop te D σ H := st_drop h S k
end
theorem all_congr' {α : Type} {f g : α → Bool} : ∀ {l : List α}, (∀ a ∈ l, f a = g a) → l.all f = l.all g
  | [], _ => rfl
  | a :: l, h => by rw [List.all_cons, List.all_cons, h a List.mem_cons_self, all_congr' fun b hb => h b (List.mem_cons_of_mem _ hb)]
section
variable {P : Program} {w : World} {K : PySem.W.Frag} {mg : Str → Option Value} {base : Heap}
abbrev cutF (K : Fr) (ps : List Pt) : List (Str × Rp) := [("own_parts", rTup (ps.map rP)), ("own_tables", rTabs ps), ("own_is_whole", rB (whole ps))]
abbrev spCutI (K : Fr) : Sp := spI (fun (ps : List Pt) _ => okPs ps) (He.ga K "Cutter") (fun ps => ps.map rP) (cutF K)
theorem sc_Cutter_init : FnScope ["self", "parts", "is_known", "told", "part", "many"] ["self", "parts"] (defScope s_Cutter_init) := ⟨rfl, rfl, rfl, by decide +kernel, rfl, by decide +kernel, by decide +kernel⟩
theorem k_Cutter_ (T : Tx P w K mg base) : Mkr P w K mg base 3 "Cutter" (He.ga K "Cutter") (spCutI K) := by
  have c_is_part := cl_is_part T
  have c_chain_places := cl_chain_places T
  obtain ⟨fd, F⟩ := T.def_ di_Cutter_init
  refine ⟨T.glo fi_glo_Cutter, _, T.mkr fi_mkr_Cutter, fnS_of (ps := ["self"]) (pv := "parts") (ar := fun x => [rV (.ref x.2.1)]) (rest := fun x : List Pt × Addr × Addr => x.1.map rP) F sc_Cutter_init (fun _ => rfl) (fun z L hp => by rw [List.length_map]; exact Nat.le_trans hp.2 (by omega)) (fun kV doc pm an cdv ct => StX.bind_star1 (B := fun us => bindArgs (PySem.W.fnOf d_Cutter_init.name d_Cutter_init.qual d_Cutter_init.params d_Cutter_init.body d_Cutter_init.scope .none kV doc pm an cdv ct) ⟨us, []⟩) (fun a => rfl) (fun a r rs => rfl)) fun cdv A outer s H0 vs Q E hr z L G hp k S => ?_⟩
  obtain ⟨ps, a, dx⟩ := z
  have h1 : okPs ps := hp
  have hl4 : ps.length ≤ 4 := h1.2
  refine ⟨_, (pss_cons (ps_set (i := 2) sc_Cutter_init.nd rfl (Or.inl rfl) (pe_and (pe_cmpR op_eq (pe_callB (id := "len") (call_lenK (K := K)) (by rfl) (T.free fi_free_len) (by decide +kernel) (pa_cons (pv 1) pa_nil)) pe_int (nomark _)) (pe_one (pe_callB (id := "isinstance") (call_isiK (K := K)) (by rfl) (T.free fi_free_isinstance) (by decide +kernel) (pa_cons (pe_ix (ix_tupK (K := K)) (pv 1) pe_int (fun _ _ => rfl)) (pa_cons (pe_glob (v := .ref (He.ga K "Known_cutters")) rfl (T.glo fi_glo_Known_cutters) rfl) pa_nil))))))
    (pss_cons (ps_set (i := 3) sc_Cutter_init.nd rfl (Or.inr rfl) (pe_ifExp (pt_val (pv 2)) (pe_fldK (K := K) (pe_ix (ix_tupK (K := K)) (pv 1) pe_int (fun _ _ => rfl)) rfl) (pv 1)))
    (pss_cons (ps_if (PW.pt (pw_and (pt_not (pt_val (pv 2))) (pw_and1 (PW.pt (pw_or (pt_not (pt_val (pe_callB (id := "all") (cr_allK (K := K) rfl) (by rfl) (T.free fi_free_all) (by decide +kernel) (pa_cons (pe_lc (own := [("part", 4)]) rfl sc_Cutter_init.nd (pi_tupK (K := K) (pv 3)) (blkOk_by (own := [("part", 4)]) (N := ["self", "parts", "is_known", "told", "part", "many"]) (sc := defScope s_Cutter_init) (by decide +kernel)) (fun _ _ _ _ _ => (pg_name (i := 4) sc_Cutter_init.nd rfl (Or.inl rfl) (Or.inr rfl))) (fun _ _ _ _ _ => pts_nil) (fun _ _ _ _ _ => (pe_callR c_is_part hr (by decide) (by rfl) (pa_cons (pv 4) pa_nil)))) pa_nil)))) (pw_or1 (pt_cmpR op_gt (pe_callB (id := "len") (call_lenK (K := K)) (by rfl) (T.free fi_free_len) (by decide +kernel) (pa_cons (pv 3) pa_nil)) (pe_gint (T.int fi_int_MAX_PARTS)) (nomark _)))))))) (pss_one ps_never) pss_nil)
    (pss_cons (ps_fldK (K := K) (pv 0) (pv 3) rfl)
    (pss_cons (ps_fldK (K := K) (pv 0) (pe_tupleK (K := K) (by rfl) (T.free fi_free_tuple) (pe_lc (own := [("many", 5)]) rfl sc_Cutter_init.nd (pi_range1 (by rfl) (T.free fi_free_range) (pa_cons (pe_op op_add (pe_gint (T.int fi_int_FEW)) pe_int) pa_nil)) (blkOk_by (own := [("many", 5)]) (N := ["self", "parts", "is_known", "told", "part", "many"]) (sc := defScope s_Cutter_init) (by decide +kernel)) (fun _ _ _ _ _ => (pg_name (i := 5) sc_Cutter_init.nd rfl (Or.inl rfl) (Or.inr rfl))) (fun _ _ _ _ _ => pts_nil) (fun _ _ _ _ _ => (pe_callR c_chain_places hr (by decide) (by rfl) (pa_cons (pv 3) (pa_cons (pv 5) pa_nil)))))) rfl)
    (pss_one (ps_fldK (K := K) (pv 0) (pe_callB (id := "all") (cr_allK (K := K) rfl) (by rfl) (T.free fi_free_all) (by decide +kernel) (pa_cons (pe_lc (own := [("part", 4)]) rfl sc_Cutter_init.nd (pi_tupK (K := K) (pv 3)) (blkOk_by (own := [("part", 4)]) (N := ["self", "parts", "is_known", "told", "part", "many"]) (sc := defScope s_Cutter_init) (by decide +kernel)) (fun _ _ _ _ _ => (pg_name (i := 4) sc_Cutter_init.nd rfl (Or.inl rfl) (Or.inr rfl))) (fun _ _ _ _ _ => pts_nil) (fun _ _ _ _ _ => (pe_cmpR op_eq (pv 4) (pe_gstr (T.str fi_str_WHOLE)) (nomark _)))) pa_nil)) rfl))))))), ?_⟩
  try dsimp only [L2.cxOf]
  refine st_set (i := 2) (r := rB false) (ms1 := [(a, .ins (He.ga K "Cutter") dx [])]) ?_ S fun σ1 G1 H1 e1 S1 => ?_
  · refine ev_b (b := decide (V.int ((ps.map rP).length : Nat) = V.int 1) && false) (c := false) ?_ ?_
    · refine ev_andV (ev_op (ev_cb (ea_cons (ev_var rfl) ea_nil) rc_lenT) ev_c (rv_eq rfl)) fun hb => ?_
      have : (ps.map rP).length = 1 := by have := V.int.inj (of_decide_eq_true hb); omega
      cases ps with
      | nil => cases this
      | cons p t =>
        exact ev_cb (ea_cons (ev_op (ev_var rfl) ev_c rv_ixT0) (ea_cons ev_c ea_nil)) (isi_known T)
    · rw [Bool.and_false]
  dsimp only
  refine st_set (i := 3) (r := rTup (ps.map rP)) (ms1 := [(a, .ins (He.ga K "Cutter") dx [])]) (ev_if (b := false) (et_B (ev_var rfl)) (fun h => nomatch h) fun _ => ev_var rfl) S1 fun σ2 G2 H2 e2 S2 => ?_
  dsimp only
  have hall : ps.all (fun _ => true) = true := List.all_eq_true.mpr fun _ _ => rfl
  refine st_ifF (ms1 := [(a, .ins (He.ga K "Cutter") dx [])]) (et_b (b := !false && (!(ps.all fun _ => true) || decide ((((ps.map rP).length : Nat) : Int) > 4))) (et_and (et_not (et_B (ev_var rfl))) fun _ => et_or (et_not (et_B ?_)) fun _ => ?_) ?_) S2 fun G3 H3 e3 S3 => ?_
  · refine ev_all (ls := ps) (g := fun _ => true) (ea_cons ?_ ea_nil)
    refine ev_lcA ps (ei_tup (ev_var rfl)) (by omega) (fun p hp => gm_name (by simp)) fun p hp B => ?_
    exact ev_call p (ea_cons (ev_var rfl) ea_nil) (h1.1 p hp)
  · exact et_val (ev_op (ev_cb (ea_cons (ev_var rfl) ea_nil) rc_lenT) ev_c rv_I0)
  · rw [hall, List.length_map]
    simp
    omega
  dsimp only [tNext]
  refine st_fldP 0 (r := rTup (ps.map rP)) (ev_var rfl) (ev_var rfl) rfl (cls_Cutter T) (na_parts T) (by simp) rfl S3 fun G4 H4 e4 S4 => ?_
  dsimp only
  refine st_fldP 0 (r := rTabs ps) ?_ (ev_var rfl) rfl (cls_Cutter T) (na_tables T) (by simp) rfl S4 fun G5 H5 e5 S5 => ?_
  · refine ev_is (ev_tupOfL (ev_lcA (List.range 6) (f := fun i => rN_ i) (e := fun n => rNs (kept ps (List.range n))) (ei_rng1 (m := 5 + 1) (ea_cons (ev_op ev_c ev_c rv_I0) ea_nil) rfl (by omega) (by omega)) (by rw [List.length_range]; omega) (fun i hi => gm_name (by simp)) fun i hi B => ?_)) ?_
    · have := List.mem_range.mp hi
      exact ev_call (ps, i) (ea_cons (ev_var rfl) (ea_cons (ev_var rfl) ea_nil)) ⟨h1, by show i ≤ 1000; omega⟩
    · unfold rTabs tabs; rw [List.map_map]; rfl
  dsimp only
  refine st_fldP 0 (r := rB (whole ps)) ?_ (ev_var rfl) rfl (cls_Cutter T) (na_whole T) (by simp) rfl S5 fun G6 H6 e6 S6 => ?_
  · refine ev_b (ev_all (ls := ps) (g := fun p => decide (V.str p.str = V.str "all")) (ea_cons ?_ ea_nil)) ?_
    · refine ev_lcA ps (ei_tup (ev_var rfl)) (by omega) (fun p hp => gm_name (by simp)) fun p hp B => ?_
      exact ev_op (ev_var rfl) ev_c (rv_eq rfl)
    · unfold whole
      exact all_congr' fun p hp => whole_eq (h1.1 p hp)
  exact k _ _ G6 H6 S6 .non rfl
abbrev spCutOf (K : Fr) : Sp := spP (fun (ps : List Pt) _ => okPs ps) (fun ps => [rV (.ref (He.ga K "Cutter")), rTup (ps.map rP)]) (fun ps => rCut K ps)
theorem sc_Cutter_of : FnScope ["cls", "parts"] ["cls", "parts"] (defScope s_Cutter_of) := ⟨rfl, rfl, rfl, by decide +kernel, rfl, by decide +kernel, by decide +kernel⟩
theorem cm_Cutter_of_ (T : Tx P w K mg base) : Cm P w K mg base 5 "Cutter" (He.ga K "Cutter") "of" (spCutOf K) := by
  have k_Cutter := k_Cutter_ T
  obtain ⟨fd, F⟩ := T.def_ di_Cutter_of
  refine ⟨T.glo fi_glo_Cutter, _, _, _, (cm_of (T.fact fi_cm_Cutter_of)).1, (cm_of (T.fact fi_cm_Cutter_of)).2, fnR_of F sc_Cutter_of (fun _ => rfl) (fun _ _ _ _ _ _ us hl => match us, hl with | [_, _], _ => rfl) fun cdv A outer s H0 vs Q E hr ps L G hp k S => ?_⟩
  refine ⟨_, (pss_cons (ps_if (pt_not (pt_val (pe_callB (id := "isinstance") (call_isiK (K := K)) (by rfl) (T.free fi_free_isinstance) (by decide +kernel) (pa_cons (pv 1) (pa_cons (pe_bltn (v := .ty "tuple") (by rfl) (T.free fi_free_tuple) (by decide +kernel) rfl) pa_nil))))) (pss_one ps_never) pss_nil)
    (pss_one (ps_ret (pe_mkS1K (K := K) k_Cutter hr (by decide) (pv 0) (pv 1))))), ?_⟩
  try dsimp only [L2.cxOf]
  refine st_ifFP (et_b (et_not (et_B (ev_cb (ea_cons (ev_var rfl) (ea_cons ev_c ea_nil)) (isi_tup T)))) rfl) S fun G1 H1 e1 S1 => ?_
  dsimp only [tNext]
  refine st_retP (rCut K ps) ?_ S1 fun v G' H' e S' hv => k _ _ G' H' S' v hv
  exact ev_mkV (x := ps) (fo := cutF K) (ev_var rfl) (ea_is (ea_starT (ev_var rfl) ea_nil) (List.append_nil _)) hp
/-! ### rules -/
abbrev ruleF (K : Fr) (x : List Pt × Bool) : List (Str × Rp) := [("own_cutter", rCut K x.1), ("own_sees", rB x.2)]
abbrev spRuleI (K : Fr) : Sp := spI (fun (_ : List Pt × Bool) _ => True) (He.ga K "Rule") (fun x => [rCut K x.1, rB x.2]) (ruleF K)
abbrev spRule1 (K : Fr) : Sp := spI (fun (_ : List Pt) _ => True) (He.ga K "Rule") (fun x => [rCut K x]) (fun x => ruleF K (x, false))
theorem sc_Rule_init : FnScope ["self", "cutter", "sees_lost"] ["self", "cutter", "sees_lost"] (defScope s_Rule_init) := ⟨rfl, rfl, rfl, by decide +kernel, rfl, by decide +kernel, by decide +kernel⟩
theorem ok_Rule_init (T : Tx P w K mg base) : ∃ fd, FunD K d_Rule_init.name d_Rule_init.qual d_Rule_init.params d_Rule_init.body d_Rule_init.scope [] [("sees_lost", .bl false)] (d_Rule_init.at_ K) fd ∧ FnOk P w K mg base CX0 2 (d_Rule_init.at_ K) fd ["self", "cutter", "sees_lost"] (spRuleI K) := by
  have c_require_cutter := cl_require_cutter T
  obtain ⟨fd, F⟩ := T.def_ di_Rule_init
  refine ⟨fd, F, fnOk_of F sc_Rule_init (fun _ => rfl) fun cdv A outer s H0 vs Q E hr z L G hp k S => ?_⟩
  obtain ⟨⟨ps, se⟩, a, dx⟩ := z
  refine ⟨_, (pss_cons (ps_expr (pe_callR c_require_cutter hr (by decide) (by rfl) (pa_cons (pv 1) pa_nil)))
    (pss_cons (ps_if (pt_not (pt_val (pe_callB (id := "isinstance") (call_isiK (K := K)) (by rfl) (T.free fi_free_isinstance) (by decide +kernel) (pa_cons (pv 2) (pa_cons (pe_bltn (v := .ty "bool") (by rfl) (T.free fi_free_bool) (by decide +kernel) rfl) pa_nil))))) (pss_one ps_never) pss_nil)
    (pss_cons (ps_fldK (K := K) (pv 0) (pv 1) rfl)
    (pss_one (ps_fldK (K := K) (pv 0) (pv 2) rfl))))), ?_⟩
  try dsimp only [L2.cxOf]
  refine st_dropP (ev_call ps (ea_cons (ev_var rfl) ea_nil) trivial) S fun G1 H1 e1 S1 => ?_
  dsimp only
  refine st_ifFP (et_b (et_not (et_B (ev_cb (ea_cons (ev_var rfl) (ea_cons ev_c ea_nil)) (isi_bool T)))) rfl) S1 fun G2 H2 e2 S2 => ?_
  dsimp only [tNext]
  refine st_fldP 0 (r := rCut K ps) (ev_var rfl) (ev_var rfl) rfl (cls_Rule T) (na_cutter T) (by simp) rfl S2 fun G3 H3 e3 S3 => ?_
  dsimp only
  refine st_fldP 0 (r := rB se) (ev_var rfl) (ev_var rfl) rfl (cls_Rule T) (na_sees T) (by simp) rfl S3 fun G4 H4 e4 S4 => ?_
  exact k _ _ G4 H4 S4 .non rfl
theorem kk_Rule_ (T : Tx P w K mg base) : MkrK P w K mg base 2 1 "Rule" (He.ga K "Rule") ["sees_lost"] (spRuleI K) := by
  obtain ⟨fd, F, ok⟩ := ok_Rule_init T
  obtain ⟨mv, hb⟩ := FunD.kbinds0 (ps := ["self", "cutter", "sees_lost"]) F 2 ["sees_lost"] [] (fun us _ ws => us ++ ws) (by simp) (by simp) (fun r1 r2 r3 => r1.append r3) (fun D doc pm an cdv ct us mv ws h1 h2 h3 => match us, mv, ws, h1, h2, h3 with | [_, _], [], [_], _, _, _ => rfl)
  exact ⟨T.glo fi_glo_Rule, _, fd, _, T.mkr fi_mkr_Rule, ok, hb⟩
theorem k_Rule_ (T : Tx P w K mg base) : Mkr P w K mg base 2 "Rule" (He.ga K "Rule") (spRule1 K) := by
  obtain ⟨fd, F, ok⟩ := ok_Rule_init T
  obtain ⟨ds, hd, hb⟩ := FunD.binds0 (ps := ["self", "cutter", "sees_lost"]) F 2 (by simp) rfl (fun D doc pm an cdv ct us ks h1 h2 => match us, ks, h1, h2 with | [_, _], [_], _, _ => ⟨_, _, _, _, _, _, rfl, rfl, rfl⟩)
  refine ⟨T.glo fi_glo_Rule, _, T.mkr fi_mkr_Rule, (ok.raw hb hd).imp fun vs H Q E h => ?_⟩
  obtain ⟨⟨ps, a, dx⟩, L, hp, G, x, hal, m, kk⟩ := h
  exact ⟨((ps, false), a, dx), L, trivial, G, x, Al.app (rs := [rV (.ref a), rCut K ps]) (ss := [rB false]) hal (.cons rfl .nil), m, kk⟩
/-! ### arrivals -/
theorem cutRs_rI {c : List Int} : cutRs (c.map rI) (some 1) none = (c.drop 1).map rI := by rw [cutRs_1, List.map_drop]
abbrev spIsArr : Sp := spP (fun (a : Arr) _ => okArr a) (fun a => [rArr a]) (fun _ => rB true)
theorem sc_is_arrival : FnScope ["value", "mark", "writer", "copy", "one", "other"] ["value"] (defScope s_is_arrival) := ⟨rfl, rfl, rfl, by decide +kernel, rfl, by decide +kernel, by decide +kernel⟩
theorem cl_is_arrival (T : Tx P w K mg base) : Cl P w K mg base 3 "is_arrival" spIsArr := by
  obtain ⟨fd, F⟩ := T.def_ di_is_arrival
  refine ⟨_, T.glo fi_glo_is_arrival, F.kp, fnR_of F sc_is_arrival (fun _ => rfl) (fun _ _ _ _ _ _ us hl => match us, hl with | [_], _ => rfl) fun cdv A outer s H0 vs Q E hr a L G hp k S => ?_⟩
  have c_is_mark := cl_is_mark T
  have c_is_name := cl_is_name T
  obtain ⟨mk, wr, c⟩ := a
  have ok : okArr ⟨mk, wr, c⟩ := hp
  have hcl : c.length ≤ 9 := ok.cl
  refine ⟨_, (pss_cons (ps_if (PW.pt (pw_or (pt_not (pt_val (pe_callB (id := "isinstance") (call_isiK (K := K)) (by rfl) (T.free fi_free_isinstance) (by decide +kernel) (pa_cons (pv 0) (pa_cons (pe_bltn (v := .ty "tuple") (by rfl) (T.free fi_free_tuple) (by decide +kernel) rfl) pa_nil))))) (pw_or1 (pt_cmpR op_ne (pe_callB (id := "len") (call_lenK (K := K)) (by rfl) (T.free fi_free_len) (by decide +kernel) (pa_cons (pv 0) pa_nil)) pe_int (nomark _))))) (pss_one (ps_ret pe_bl)) pss_nil)
    (pss_cons (ps_asg (pv 0) (pg_tupK (K := K) (n := 3) rfl (pgs_cons (pg_name (i := 1) sc_is_arrival.nd rfl (Or.inl rfl)) (pgs_cons (pg_name (i := 2) sc_is_arrival.nd rfl (Or.inl rfl)) (pgs_cons (pg_name (i := 3) sc_is_arrival.nd rfl (Or.inl rfl)) pgs_nil)))))
    (pss_cons (ps_if (PW.pt (pw_or (pt_not (pt_val (pe_callR c_is_mark hr (by decide) (by rfl) (pa_cons (pv 1) pa_nil)))) (pw_or (pt_not (pt_val (pe_callR c_is_name hr (by decide) (by rfl) (pa_cons (pv 2) pa_nil)))) (pw_or1 (pt_not (pt_val (pe_callB (id := "isinstance") (call_isiK (K := K)) (by rfl) (T.free fi_free_isinstance) (by decide +kernel) (pa_cons (pv 3) (pa_cons (pe_bltn (v := .ty "tuple") (by rfl) (T.free fi_free_tuple) (by decide +kernel) rfl) pa_nil))))))))) (pss_one (ps_ret pe_bl)) pss_nil)
    (pss_one (ps_ret (pe_and (pe_callB (id := "all") (cr_allK (K := K) rfl) (by rfl) (T.free fi_free_all) (by decide +kernel) (pa_cons (pe_lc (own := [("one", 4)]) rfl sc_is_arrival.nd (pi_tupK (K := K) (pv 3)) (blkOk_by (own := [("one", 4)]) (N := ["value", "mark", "writer", "copy", "one", "other"]) (sc := defScope s_is_arrival) (by decide +kernel)) (fun _ _ _ _ _ => (pg_name (i := 4) sc_is_arrival.nd rfl (Or.inl rfl) (Or.inr rfl))) (fun _ _ _ _ _ => pts_nil) (fun _ _ _ _ _ => (pe_callR c_is_mark hr (by decide) (by rfl) (pa_cons (pv 4) pa_nil)))) pa_nil)) (pe_one (pe_callB (id := "all") (cr_allK (K := K) rfl) (by rfl) (T.free fi_free_all) (by decide +kernel) (pa_cons (pe_lc (own := [("one", 4), ("other", 5)]) rfl sc_is_arrival.nd (pi_zipK (K := K) (by rfl) (T.free fi_free_zip) (pa_cons (pv 3) (pa_cons (pe_tup (pa_starK (K := K) (pe_slice (sl_tupK (K := K)) (pv 3) (po_some pe_int) po_none) (pa_cons (pv 1) pa_nil))) pa_nil))) (blkOk_by (own := [("one", 4), ("other", 5)]) (N := ["value", "mark", "writer", "copy", "one", "other"]) (sc := defScope s_is_arrival) (by decide +kernel)) (fun _ _ _ _ _ => (pg_tupK (K := K) (n := 2) rfl (pgs_cons (pg_name (i := 4) sc_is_arrival.nd rfl (Or.inl rfl) (Or.inr rfl)) (pgs_cons (pg_name (i := 5) sc_is_arrival.nd rfl (Or.inl rfl) (Or.inr rfl)) pgs_nil)))) (fun _ _ _ _ _ => pts_nil) (fun _ _ _ _ _ => (pe_cmpR op_lt (pv 4) (pv 5) (nomark _)))) pa_nil))))))))), ?_⟩
  try dsimp only [L2.cxOf]
  have sv : ∀ B, EvM B L (tVar 0) [some (rArr ⟨mk, wr, c⟩), none, none, none, none, none] [] (rTup [rI mk, rS wr, rInts c]) [] := fun B => ev_var rfl
  refine st_ifFP (et_b (b := !true || !decide (V.int ((3 : Nat) : Int) = V.int 3)) (et_or (et_not (et_B (ev_cb (ea_cons (sv _) (ea_cons ev_c ea_nil)) (isi_tup T)))) fun _ => et_val (ev_op (ev_cb (ea_cons (sv _) ea_nil) rc_lenT) ev_c (rv_ne rfl))) (by simp)) S fun G1 H1 e1 S1 => ?_
  dsimp only [tNext]
  refine st_unp (sv _) (gm_tup3 (vs := [1, 2, 3]) (by simp) (by simp) (by simp)) S1 fun σ2 G2 H2 e2 S2 => ?_
  dsimp only
  refine st_ifFP (et_b (b := !true || (!true || !true)) (et_or (et_not (et_B (ev_call mk (ea_cons (ev_var rfl) ea_nil) ok.m0))) fun _ => et_or (et_not (et_B (ev_call wr (ea_cons (ev_var rfl) ea_nil) ok.w))) fun _ => et_not (et_B (ev_cb (ea_cons (ev_var rfl) (ea_cons ev_c ea_nil)) (isi_tup T)))) rfl) S2 fun G3 H3 e3 S3 => ?_
  dsimp only [tNext]
  refine st_retP (rB true) ?_ S3 fun v G' H' e S' hv => k _ _ G' H' S' v hv
  refine ev_b (b := c.all (fun _ => true) && (c.zip (c.drop 1 ++ [mk])).all fun p => decide (p.1 < p.2)) (ev_andV ?_ fun _ => ?_) ?_
  · refine ev_all (ls := c) (g := fun _ => true) (ea_cons ?_ ea_nil)
    refine ev_lcA c (ei_tup (ev_var rfl)) (by omega) (fun i hi => gm_name (by simp)) fun i hi B => ?_
    exact ev_call i (ea_cons (ev_var rfl) ea_nil) (ok.c0 i hi)
  · refine ev_all (ls := c.zip (c.drop 1 ++ [mk])) (g := fun p => decide (p.1 < p.2)) (ea_cons ?_ ea_nil)
    have hz : List.zipWith (fun r s => rTup [r, s]) (c.map rI) ((c.drop 1 ++ [mk]).map rI) = (c.zip (c.drop 1 ++ [mk])).map fun p => rTup [rI p.1, rI p.2] := by
      rw [List.zipWith_map, List.zip, List.map_zipWith]
    refine ev_lcA (c.zip (c.drop 1 ++ [mk])) (f := fun p => rTup [rI p.1, rI p.2]) (e := fun p => rB (decide (p.1 < p.2))) ?_ ?_ (fun p hp => gm_tup2 (by simp) (by simp)) fun p hp B => ev_op (ev_var rfl) (ev_var rfl) rv_I0
    · rw [← hz]
      refine ei_zipT (ea_cons (ev_var rfl) (ea_cons (ev_is (ev_tup (ea_starT (ev_slT (ev_var rfl) (eo_some ev_c) eo_none) (ea_cons (ev_var rfl) ea_nil)) ?_) ?_) ea_nil))
      · rw [cutRs_rI]; simp; omega
      · rw [cutRs_rI, List.map_append]; rfl
    · rw [List.length_zip]; omega
  · rw [Bool.and_eq_true]
    exact ⟨List.all_eq_true.mpr fun _ _ => rfl, List.all_eq_true.mpr fun p hp => decide_eq_true (zip_up ok.up p hp)⟩
end
end K62
set_option maxHeartbeats 4000000
/-! K62Dg: pages: places, moves. -/
namespace K62
open PySem PySem.Spec PyProof.Rows L2
local macro_rules | `(tactic| walk_at "ev") => `(tactic| repeat' (first
  | ((with_reducible apply ev_var); exact rfl)
  | with_reducible exact ev_c
  | with_reducible exact ea_nil
  | with_reducible exact et_yes
  | with_reducible exact rv_I0
  | with_reducible exact eo_none
  | with_reducible apply eo_some
  | with_reducible apply ea_cons
  | with_reducible apply ev_op
  | (with_reducible apply ev_andV <;> try intro _)
  | (with_reducible apply ev_orV <;> try intro _)
  | with_reducible apply ev_notV
  | with_reducible apply ev_tup
  | with_reducible apply ev_lst
  | with_reducible apply ev_neg
  | with_reducible apply ev_cb
  | with_reducible apply et_B
  | with_reducible apply et_val
  | with_reducible apply et_not
  | (with_reducible apply et_and <;> try intro _)
  | (with_reducible apply et_or <;> try intro _)
  | with_reducible apply ev_call
  | with_reducible apply ev_fld
  | with_reducible exact cls_Cutter (by assumption)
  | with_reducible exact cls_Rule (by assumption)
  | with_reducible exact cls_Page (by assumption)
  | with_reducible exact cls_Inbox (by assumption)
  | with_reducible exact na_parts (by assumption)
  | with_reducible exact na_tables (by assumption)
  | with_reducible exact na_whole (by assumption)
  | with_reducible exact na_cutter (by assumption)
  | with_reducible exact na_sees (by assumption)
  | with_reducible exact na_rule (by assumption)
  | with_reducible exact na_pmarks (by assumption)
  | with_reducible exact na_letters (by assumption)
  | with_reducible exact na_bound (by assumption)
  | with_reducible exact na_shown (by assumption)
  | with_reducible exact na_moves (by assumption)
  | with_reducible exact na_near (by assumption)
  | with_reducible exact na_groups (by assumption)
  | with_reducible exact na_pages (by assumption)
  | with_reducible exact na_version (by assumption)
  | with_reducible exact na_marks (by assumption)
  | with_reducible exact isi_str (by assumption)
  | with_reducible exact isi_int (by assumption)
  | with_reducible exact isi_intbool (by assumption)
  | with_reducible exact isi_bool (by assumption)
  | with_reducible exact isi_tup (by assumption)
  | with_reducible exact isi_Cutter (by assumption)
  | with_reducible exact isi_Rule (by assumption)
  | with_reducible exact isi_Inbox (by assumption)
  | with_reducible exact rc_lenT
  | with_reducible exact rc_lenL
  | with_reducible apply rc_lenS
  | with_reducible exact rc_abs
  | with_reducible exact rc_max
  | with_reducible exact rc_min
  | with_reducible exact rc_int
  | with_reducible exact rc_intB
  | with_reducible exact rv_inSign
  | with_reducible exact rv_inT
  | with_reducible exact rv_inL
  | with_reducible exact rv_ninL
  | with_reducible exact rv_ixT0
  | with_reducible exact rv_ixT1
  | with_reducible exact rv_ixT2
  | with_reducible exact rv_ixT3
  | with_reducible exact rv_ixL0
  | with_reducible exact rv_ixL1
  | with_reducible exact rv_ixL2))
/-! ### dicts by a list -/
theorem look_map {α : Type} {g : α → Int} {f : α → Rp} {k : Int} : ∀ {l : List α}, (lookI k (l.map fun a => (g a, f a))).isSome = decide (k ∈ l.map g)
  | [] => by simp [lookI]
  | a :: l => by
    have ih := look_map (g := g) (f := f) (k := k) (l := l)
    unfold lookI at ih ⊢
    rw [List.map_cons, List.lookup_cons, List.map_cons]
    by_cases e : k = g a
    · subst e; simp
    · have z : (k == g a) = false := beq_eq_false_iff_ne.mpr e
      rw [z]
      dsimp only
      rw [ih]
      exact decide_eq_decide.mpr ⟨fun h => List.mem_cons_of_mem _ h, fun h => (List.mem_cons.mp h).resolve_left e⟩
theorem look_fn {f : Int → Rp} {k : Int} : ∀ {l : List Int}, k ∈ l → lookI k (l.map fun m => (m, f m)) = some (f k)
  | a :: l, h => by
    unfold lookI
    rw [List.map_cons, List.lookup_cons]
    by_cases e : k = a
    · subst e; simp
    · have z : (k == a) = false := beq_eq_false_iff_ne.mpr e
      rw [z]
      exact look_fn ((List.mem_cons.mp h).resolve_left e)
theorem put_fn {f : Int → Rp} {k : Int} {r : Rp} {l : List Int} (h : k ∈ l) : putI k r (l.map fun m => (m, f m)) = l.map fun m => (m, if m = k then r else f m) := by
  unfold putI
  rw [if_pos (List.any_eq_true.mpr ⟨(k, f k), List.mem_map.mpr ⟨k, h, rfl⟩, decide_eq_true rfl⟩), List.map_map]
  refine List.map_congr_left fun m _ => ?_
  show (if m = k then (m, r) else (m, f m)) = _
  split <;> rfl
theorem eqv_nil {c : List Int} : PyData.eqv (.list (c.map .int)) (.list []) = c.isEmpty := by
  cases c <;> simp [PyData.eqv, PyData.eqvAll]
section
variable {B : Bs} {L : List Addr} {ctx : Ct} {ms ms1 ms2 : Ms} {te ta tb : TE} {tl : TA} {r : Rp} {rs : List Rp} {K : PySem.W.Frag}
theorem rv_ixLast : RvM B L (rIxL K) (rLst (rs ++ [r])) (rI (-1)) ctx ms r ms := fun σ G H x y S ⟨a, xs, ex, ha, hal⟩ hy Q q => by
  have hl : xs.length = rs.length + 1 := by rw [← hal.len, List.length_append]; rfl
  obtain ⟨v, hv, hr⟩ := hal.get (i := rs.length) (r := r) (by simp)
  have hy : y = .int (-1) := hy
  subst ex hy
  refine ⟨a, xs, -1, v, rfl, rfl, SqL.of (S.ex.lst ha), ?_, q v G H (Same.refl G) S hr⟩
  unfold atI ixN
  rw [if_neg (by omega)]
  have e : ((-1 : Int) + (xs.length : Int)) = ((rs.length : Nat) : Int) := by omega
  have e2 : -(xs.length : Int) ≤ -1 := by omega
  simp [e2, e, hv]
theorem rv_neNil {c : List Int} : RvM B L (rNeD K) (rLst (c.map rI)) (rLst []) ctx ms (rB (!c.isEmpty)) ms := by
  have h1 : Dat K (rLst (c.map rI)) (.list (c.map .int)) := dat_lst (paired_map fun _ _ => dat_int)
  have h2 : Dat K (rLst []) (.list []) := dat_lst .nil
  have z := rv_neD (B := B) (L := L) (ctx := ctx) (ms := ms) h1 h2 ((da_lst (da_map fun _ _ => da_int)).shaped (by omega)) ((da_lst (k := 0) (by simp)).shaped (by omega))
  rw [eqv_nil] at z
  exact z
theorem ev_nil : EvM B L (tLst tNil) ctx ms (rLst []) ms := ev_lst ea_nil (by simp)
theorem mem_head {α : Type} {a : α} {l : List α} : (a :: l)[0]? = some a := rfl
end
abbrev pF4 (K : Fr) (e : Ent) : List (Str × Rp) := [("own_rule", rRule K e.ps e.se), ("own_marks", rInts (marks e.ls)), ("own_letters", rLet (srt e.ls)), ("own_bound", rDct ((marks e.ls).map fun m => (m, rInts (bd e m))))]
theorem srt_keys {ls : List Arr} : (srt ls).map (fun a => (a.m, rArr a)) = (srt ls).map fun a => (a.m, rArr a) := rfl
theorem bd_len {e : Ent} (h : okLs e.ls) (x : Int) (hx : x ∈ marks e.ls) : (bd e x).length ≤ 9 := by
  unfold bd
  have a := arrOf_in (mem_marks.mp hx)
  exact Nat.le_trans (kept_le _ _) (h.ok _ a.1).cl
section
variable {P : Program} {w : World} {K : PySem.W.Frag} {mg : Str → Option Value} {base : Heap}
noncomputable abbrev spPlace (K : Fr) : Sp := spF (fun (x : Ent × Int × Addr × Addr) _ => okLs x.1.ls ∧ x.2.1 ∈ marks x.1.ls) (fun x => [rV (.ref x.2.2.1), rI x.2.1]) (fun x => [(x.2.2.1, .ins (He.ga K "Page") x.2.2.2 (pF4 K x.1))]) (fun x => [(x.2.2.1, .ins (He.ga K "Page") x.2.2.2 (pF4 K x.1))]) (fun x => rOpt (plc x.1 x.2.1))
theorem sc_Page_place_of : FnScope ["self", "mark", "came", "one"] ["self", "mark"] (defScope s_Page_place_of) := ⟨rfl, rfl, rfl, by decide +kernel, rfl, by decide +kernel, by decide +kernel⟩
theorem mt_Page_place_of (T : Tx P w K mg base) : Mt P w K mg base 1 (He.ga K "Page") "place_of" (spPlace K) := by
  obtain ⟨fd, F⟩ := T.def_ di_Page_place_of
  refine ⟨_, T.meth fi_meth_Page_place_of, fnR_of F sc_Page_place_of (fun _ => rfl) (fun _ _ _ _ _ _ us hl => match us, hl with | [_, _], _ => rfl) fun cdv A outer s H0 vs Q E hr z L G hp k S => ?_⟩
  obtain ⟨e, x, a, dx⟩ := z
  have h1 : okLs e.ls := hp.1
  have h2 : x ∈ marks e.ls := hp.2
  have hb := bd_len h1 x h2
  refine ⟨_, (pss_cons (ps_setLc (i := 2) (own := [("one", 3)]) rfl sc_Page_place_of.nd rfl rfl (sw_true rfl rfl rfl (by decide +kernel)) (pi_tupK (K := K) (pe_dget (hu_of hr) (pe_fldK (K := K) (pv 0) rfl) (pv 1) (fun _ _ => rfl))) (blkOk_by (own := [("one", 3)]) (N := ["self", "mark", "came", "one"]) (sc := defScope s_Page_place_of) (by decide +kernel)) (fun _ _ _ _ _ => (pg_name (i := 3) sc_Page_place_of.nd rfl (Or.inl rfl) (Or.inr rfl))) (fun _ _ _ _ _ => (pts_one (pt_cmp (pc_din (hu_of hr) (pv 3) (pe_fldK (K := K) (pv 0) rfl))))) (fun _ _ _ _ _ => (pv 3)))
    (pss_one (ps_ret (pe_ifExp (pt_cmpR (op_neDK (K := K) hr.units) (pv 2) (pe_lst pa_nil) (nomark _)) (pe_ix (ix_listK (K := K)) (pv 2) (pe_un un_neg pe_int) (fun _ _ => rfl)) pe_non)))), ?_⟩
  try dsimp only [L2.cxOf]
  refine st_setP (i := 2) (rLst (((bd e x).filter fun y => decide (y ∈ marks e.ls)).map rI)) ?_ S fun σ1 G1 H1 e1 S1 => ?_
  · refine ev_lc (bd e x) (f := fun y => rI y) (e := fun y => rI y) (b := fun y => decide (y ∈ marks e.ls)) (ei_tup (ev_dget (ev_fldM (ev_var rfl) (j := 0) rfl (cls_Page T) (na_bound T) rfl) (ev_var rfl) (look_fn (f := fun m => rInts (bd e m)) h2))) (by omega) (fun y hy => gm_name (by simp)) (fun y hy B => ?_) fun y hy hb B => ev_var rfl
    refine et_b (et_B (ev_din (ev_var rfl) (ev_fldM (ev_var rfl) (j := 0) rfl (cls_Page T) (na_letters T) rfl))) ?_
    rw [look_map]
    rfl
  dsimp only
  refine st_retP (rOpt (plc e x)) ?_ S1 fun v G' H' e S' hv => k _ _ G' H' S' v hv
  refine ev_if (et_val (ev_op (ev_var rfl) ev_nil rv_neNil)) (fun hne => ?_) (fun hne => ?_)
  · have hc : ((bd e x).filter fun y => decide (y ∈ marks e.ls)) ≠ [] := by
      intro z; rw [z] at hne; cases hne
    have hl := List.dropLast_concat_getLast hc
    have hp : plc e x = some (((bd e x).filter fun y => decide (y ∈ marks e.ls)).getLast hc) := by
      unfold plc
      exact List.getLast?_eq_some_getLast hc
    rw [hp]
    have sv : (((bd e x).filter fun y => decide (y ∈ marks e.ls)).map rI) = ((((bd e x).filter fun y => decide (y ∈ marks e.ls)).dropLast).map rI) ++ [rI (((bd e x).filter fun y => decide (y ∈ marks e.ls)).getLast hc)] := by
      conv => lhs; rw [← hl]
      rw [List.map_append]
      rfl
    exact ev_op (ev_is (ev_var rfl) (congrArg rLst sv)) (ev_neg ev_c) rv_ixLast
  · have hc : ((bd e x).filter fun y => decide (y ∈ marks e.ls)) = [] := by
      cases q : (bd e x).filter fun y => decide (y ∈ marks e.ls) with
      | nil => rfl
      | cons a t => rw [q] at hne; cases hne
    have hp : plc e x = none := by unfold plc; rw [hc]; rfl
    rw [hp]
    exact ev_c
end
end K62
set_option maxHeartbeats 4000000
/-! K62Dh: an inbox, read. -/
namespace K62
open PySem PySem.Spec PyProof.Rows L2
local macro_rules | `(tactic| walk_at "ev") => `(tactic| repeat' (first
  | ((with_reducible apply ev_var); exact rfl)
  | with_reducible exact ev_c
  | with_reducible exact ea_nil
  | with_reducible exact et_yes
  | with_reducible exact rv_I0
  | with_reducible exact eo_none
  | with_reducible apply eo_some
  | with_reducible apply ea_cons
  | with_reducible apply ev_op
  | (with_reducible apply ev_andV <;> try intro _)
  | (with_reducible apply ev_orV <;> try intro _)
  | with_reducible apply ev_notV
  | with_reducible apply ev_tup
  | with_reducible apply ev_lst
  | with_reducible apply ev_neg
  | with_reducible apply ev_cb
  | with_reducible apply et_B
  | with_reducible apply et_val
  | with_reducible apply et_not
  | (with_reducible apply et_and <;> try intro _)
  | (with_reducible apply et_or <;> try intro _)
  | with_reducible apply ev_call
  | with_reducible apply ev_fld
  | with_reducible exact cls_Cutter (by assumption)
  | with_reducible exact cls_Rule (by assumption)
  | with_reducible exact cls_Page (by assumption)
  | with_reducible exact cls_Inbox (by assumption)
  | with_reducible exact na_parts (by assumption)
  | with_reducible exact na_tables (by assumption)
  | with_reducible exact na_whole (by assumption)
  | with_reducible exact na_cutter (by assumption)
  | with_reducible exact na_sees (by assumption)
  | with_reducible exact na_rule (by assumption)
  | with_reducible exact na_pmarks (by assumption)
  | with_reducible exact na_letters (by assumption)
  | with_reducible exact na_bound (by assumption)
  | with_reducible exact na_shown (by assumption)
  | with_reducible exact na_moves (by assumption)
  | with_reducible exact na_near (by assumption)
  | with_reducible exact na_groups (by assumption)
  | with_reducible exact na_pages (by assumption)
  | with_reducible exact na_version (by assumption)
  | with_reducible exact na_marks (by assumption)
  | with_reducible exact isi_str (by assumption)
  | with_reducible exact isi_int (by assumption)
  | with_reducible exact isi_intbool (by assumption)
  | with_reducible exact isi_bool (by assumption)
  | with_reducible exact isi_tup (by assumption)
  | with_reducible exact isi_Cutter (by assumption)
  | with_reducible exact isi_Rule (by assumption)
  | with_reducible exact isi_Inbox (by assumption)
  | with_reducible exact rc_lenT
  | with_reducible exact rc_lenL
  | with_reducible apply rc_lenS
  | with_reducible exact rc_abs
  | with_reducible exact rc_max
  | with_reducible exact rc_min
  | with_reducible exact rc_int
  | with_reducible exact rc_intB
  | with_reducible exact rv_inSign
  | with_reducible exact rv_inT
  | with_reducible exact rv_inL
  | with_reducible exact rv_ninL
  | with_reducible exact rv_ixT0
  | with_reducible exact rv_ixT1
  | with_reducible exact rv_ixT2
  | with_reducible exact rv_ixT3
  | with_reducible exact rv_ixL0
  | with_reducible exact rv_ixL1
  | with_reducible exact rv_ixL2))
abbrev ibF (pages : List Rp) (v : Nat) (m : Rp) : List (Str × Rp) := [("own_pages", rTup pages), ("own_version", rN_ v), ("own_marks", m)]
noncomputable def pagesOf (K : Fr) (h : List Ent) : List Rp := (List.range h.length).map fun i => rPage K (h.take (i + 1))
theorem pages_at {K : Fr} {h : List Ent} {v : Nat} (hv : v < h.length) : (pagesOf K h)[v]? = some (rPage K (h.take (v + 1))) := by
  unfold pagesOf
  rw [List.getElem?_map, List.getElem?_range hv]
  rfl
theorem lastE_take {h : List Ent} {v : Nat} (hv : v < h.length) : lastE (h.take (v + 1)) = h.getD v default := by
  unfold lastE
  rw [List.take_add_one, List.getElem?_eq_getElem hv]
  show ((h.take v ++ [h[v]]).getLast?).getD default = _
  rw [List.getLast?_concat]
  simp [List.getD, List.getElem?_eq_getElem hv]
theorem inbF_eq {K : Fr} {h : List Ent} {now : Nat} : inbF K h now = ibF (pagesOf K h) now (rInts (marks (h.getD now default).ls)) := rfl
abbrev atE (h : List Ent) (now : Nat) : Ent := h.getD now default
theorem okH.at_ {h : List Ent} (o : okH h) {now : Nat} (hn : now < h.length) : okE (atE h now) := by
  have e : atE h now = h[now] := by simp [atE, List.getD, List.getElem?_eq_getElem hn]
  rw [e]
  exact o.ok _ (List.getElem_mem hn)
section
variable {P : Program} {w : World} {K : PySem.W.Frag} {mg : Str → Option Value} {base : Heap}
/-- an inbox as it is handed: a cell, or pure -/
structure IbX where
  pages : List Rp
  v : Nat
  m : Rp
  r : Rp
  at_ : Option (Addr × Addr)
def IbX.ar (K : Fr) (x : IbX) : Rp := match x.at_ with
  | some (a, _) => rV (.ref a)
  | none => rIns (He.ga K "Inbox") (ibF x.pages x.v x.m)
def IbX.mi (K : Fr) (x : IbX) : Ms := match x.at_ with
  | some (a, dx) => [(a, .ins (He.ga K "Inbox") dx (ibF x.pages x.v x.m))]
  | none => []
abbrev spInbPage (K : Fr) : Sp := spF (fun (x : IbX) _ => x.pages[x.v]? = some x.r) (fun x => [x.ar K]) (fun x => x.mi K) (fun x => x.mi K) (fun x => x.r)
theorem sc_Inbox_page : FnScope ["self"] ["self"] (defScope s_Inbox_page) := ⟨rfl, rfl, rfl, by decide +kernel, rfl, by decide +kernel, by decide +kernel⟩
theorem mt_Inbox_page (T : Tx P w K mg base) : Mt P w K mg base 1 (He.ga K "Inbox") "page" (spInbPage K) := by
  obtain ⟨fd, F⟩ := T.def_ di_Inbox_page
  refine ⟨_, T.meth fi_meth_Inbox_page, fnR_of F sc_Inbox_page (fun _ => rfl) (fun _ _ _ _ _ _ us hl => match us, hl with | [_], _ => rfl) fun cdv A outer s H0 vs Q E hr z L G hp k S => ?_⟩
  obtain ⟨pages, v, m, r, at_⟩ := z
  refine ⟨_, (pss_one (ps_ret (pe_ix (ix_tupK (K := K)) (pe_fldK (K := K) (pv 0) rfl) (pe_fldK (K := K) (pv 0) rfl) (fun _ _ => rfl)))), ?_⟩
  try dsimp only [L2.cxOf]
  refine st_retP r ?_ S fun w G' H' e S' hv => k _ _ G' H' S' w hv
  cases at_ with
  | none => exact ev_op (ev_fld (ev_var rfl) (cls_Inbox T) (na_pages T) rfl) (ev_fld (ev_var rfl) (cls_Inbox T) (na_version T) rfl) (rv_ixT (k := v) rfl hp)
  | some p =>
    obtain ⟨a, dx⟩ := p
    exact ev_op (ev_fldM (ev_var rfl) (j := 0) rfl (cls_Inbox T) (na_pages T) rfl) (ev_fldM (ev_var rfl) (j := 0) rfl (cls_Inbox T) (na_version T) rfl) (rv_ixT (k := v) rfl hp)
noncomputable abbrev spGoTo (K : Fr) : Sp := spF (fun (x : List Ent × Nat × Rp × Nat × Addr × Addr) _ => x.2.2.2.1 < x.1.length) (fun x => [rV (.ref x.2.2.2.2.1), rN_ x.2.2.2.1]) (fun x => [(x.2.2.2.2.1, .ins (He.ga K "Inbox") x.2.2.2.2.2 (ibF (pagesOf K x.1) x.2.1 x.2.2.1))]) (fun x => [(x.2.2.2.2.1, cInb K x.2.2.2.2.2 x.1 x.2.2.2.1)]) (fun _ => rN)
theorem sc_Inbox_go_to : FnScope ["self", "version"] ["self", "version"] (defScope s_Inbox_go_to) := ⟨rfl, rfl, rfl, by decide +kernel, rfl, by decide +kernel, by decide +kernel⟩
theorem mt_Inbox_go_to (T : Tx P w K mg base) : Mt P w K mg base 1 (He.ga K "Inbox") "go_to" (spGoTo K) := by
  obtain ⟨fd, F⟩ := T.def_ di_Inbox_go_to
  refine ⟨_, T.meth fi_meth_Inbox_go_to, fnR_of F sc_Inbox_go_to (fun _ => rfl) (fun _ _ _ _ _ _ us hl => match us, hl with | [_, _], _ => rfl) fun cdv A outer s H0 vs Q E hr z L G hp k S => ?_⟩
  obtain ⟨h, v0, m0, v, a, dx⟩ := z
  have hv : v < h.length := hp
  refine ⟨_, (pss_cons (ps_fldK (K := K) (pv 0) (pv 1) rfl)
    (pss_one (ps_fldK (K := K) (pv 0) (pe_fldK (K := K) (pe_ix (ix_tupK (K := K)) (pe_fldK (K := K) (pv 0) rfl) (pv 1) (fun _ _ => rfl)) rfl) rfl))), ?_⟩
  try dsimp only [L2.cxOf]
  refine st_fldM (j := 0) (r := rN_ v) (ms1 := [(a, .ins (He.ga K "Inbox") dx (ibF (pagesOf K h) v0 m0))]) (ms2 := [(a, .ins (He.ga K "Inbox") dx (ibF (pagesOf K h) v0 m0))]) (ev_var rfl) (ev_var rfl) rfl (cls_Inbox T) (na_version T) (by simp) S fun G1 H1 e1 S1 => ?_
  have e1' : putR "own_version" (rN_ v) (ibF (pagesOf K h) v0 m0) = ibF (pagesOf K h) v m0 := rfl
  rw [e1'] at S1
  dsimp only
  refine st_fldM (j := 0) (r := rInts (marks (atE h v).ls)) (ms1 := [(a, .ins (He.ga K "Inbox") dx (ibF (pagesOf K h) v m0))]) (ms2 := [(a, .ins (He.ga K "Inbox") dx (ibF (pagesOf K h) v m0))]) ?_ (ev_var rfl) rfl (cls_Inbox T) (na_marks T) (by simp) S1 fun G2 H2 e2 S2 => ?_
  · refine ev_is (ev_fld (ev_op (ev_fldM (ev_var rfl) (j := 0) rfl (cls_Inbox T) (na_pages T) rfl) (ev_var rfl) (rv_ixT (k := v) rfl (pages_at hv))) (cls_Page T) (na_pmarks T) rfl) ?_
    rw [lastE_take hv]
  have e2' : putR "own_marks" (rInts (marks (atE h v).ls)) (ibF (pagesOf K h) v m0) = ibF (pagesOf K h) v (rInts (marks (atE h v).ls)) := rfl
  rw [e2'] at S2
  exact k _ _ G2 H2 S2 .non rfl
end
end K62
set_option maxHeartbeats 4000000
/-! K62Di: an inbox, read. -/
namespace K62
open PySem PySem.Spec PyProof.Rows L2
local macro_rules | `(tactic| walk_at "ev") => `(tactic| repeat' (first
  | ((with_reducible apply ev_var); exact rfl)
  | with_reducible exact ev_c
  | with_reducible exact ea_nil
  | with_reducible exact et_yes
  | with_reducible exact rv_I0
  | with_reducible exact eo_none
  | with_reducible apply eo_some
  | with_reducible apply ea_cons
  | with_reducible apply ev_op
  | (with_reducible apply ev_andV <;> try intro _)
  | (with_reducible apply ev_orV <;> try intro _)
  | with_reducible apply ev_notV
  | with_reducible apply ev_tup
  | with_reducible apply ev_lst
  | with_reducible apply ev_neg
  | with_reducible apply ev_cb
  | with_reducible apply et_B
  | with_reducible apply et_val
  | with_reducible apply et_not
  | (with_reducible apply et_and <;> try intro _)
  | (with_reducible apply et_or <;> try intro _)
  | with_reducible apply ev_call
  | with_reducible apply ev_fld
  | with_reducible exact cls_Cutter (by assumption)
  | with_reducible exact cls_Rule (by assumption)
  | with_reducible exact cls_Page (by assumption)
  | with_reducible exact cls_Inbox (by assumption)
  | with_reducible exact na_parts (by assumption)
  | with_reducible exact na_tables (by assumption)
  | with_reducible exact na_whole (by assumption)
  | with_reducible exact na_cutter (by assumption)
  | with_reducible exact na_sees (by assumption)
  | with_reducible exact na_rule (by assumption)
  | with_reducible exact na_pmarks (by assumption)
  | with_reducible exact na_letters (by assumption)
  | with_reducible exact na_bound (by assumption)
  | with_reducible exact na_shown (by assumption)
  | with_reducible exact na_moves (by assumption)
  | with_reducible exact na_near (by assumption)
  | with_reducible exact na_groups (by assumption)
  | with_reducible exact na_pages (by assumption)
  | with_reducible exact na_version (by assumption)
  | with_reducible exact na_marks (by assumption)
  | with_reducible exact isi_str (by assumption)
  | with_reducible exact isi_int (by assumption)
  | with_reducible exact isi_intbool (by assumption)
  | with_reducible exact isi_bool (by assumption)
  | with_reducible exact isi_tup (by assumption)
  | with_reducible exact isi_Cutter (by assumption)
  | with_reducible exact isi_Rule (by assumption)
  | with_reducible exact isi_Inbox (by assumption)
  | with_reducible exact rc_lenT
  | with_reducible exact rc_lenL
  | with_reducible apply rc_lenS
  | with_reducible exact rc_abs
  | with_reducible exact rc_max
  | with_reducible exact rc_min
  | with_reducible exact rc_int
  | with_reducible exact rc_intB
  | with_reducible exact rv_inSign
  | with_reducible exact rv_inT
  | with_reducible exact rv_inL
  | with_reducible exact rv_ninL
  | with_reducible exact rv_ixT0
  | with_reducible exact rv_ixT1
  | with_reducible exact rv_ixT2
  | with_reducible exact rv_ixT3
  | with_reducible exact rv_ixL0
  | with_reducible exact rv_ixL1
  | with_reducible exact rv_ixL2))
structure Ib where
  h : List Ent
  now : Nat
  a : Addr
  dx : Addr
abbrev Ib.e (x : Ib) : Ent := atE x.h x.now
noncomputable abbrev Ib.c (K : Fr) (x : Ib) : Ms := [(x.a, cInb K x.dx x.h x.now)]
def Ib.ok (x : Ib) : Prop := okH x.h ∧ x.now < x.h.length
theorem Ib.ok.e {x : Ib} (o : x.ok) : okE x.e := o.1.at_ o.2
noncomputable def pgF (K : Fr) (e : Ent) (h : List Ent) : List (Str × Rp) :=
  [("own_rule", rRule K e.ps e.se), ("own_marks", rInts (marks e.ls)), ("own_letters", rLet (srt e.ls)), ("own_bound", rDct ((marks e.ls).map fun m => (m, rInts (bd e m)))),
    ("own_shown", rDct ((marks e.ls).map fun m => (m, rOpt (plc e m)))), ("own_moves", rDct ((marks e.ls).map fun m => (m, rN_ (mvs h m)))), ("own_near", rAny), ("own_groups", rTup ((groups e).map rInts))]
theorem rPage_eq {K : Fr} {h : List Ent} {v : Nat} (hv : v < h.length) : rPage K (h.take (v + 1)) = rIns (He.ga K "Page") (pgF K (atE h v) (h.take (v + 1))) := by
  show rIns _ (pageF K (h.take (v + 1))) = _
  congr 1
  show pgF K (lastE (h.take (v + 1))) _ = _
  rw [lastE_take hv]
section
variable {B : Bs} {L : List Addr} {ctx : Ct} {ms : Ms} {K : PySem.W.Frag}
theorem ev_page {i j : Nat} (x : Ib) (hc : ctx[i]? = some (some (rV (.ref x.a)))) (hj : ms[j]? = some (x.a, cInb K x.dx x.h x.now)) (hv : x.now < x.h.length) :
    EvM B L (tMethR (He.ga K "Inbox") "page" (spInbPage K) E0 (tVar i) tNil) ctx ms (rIns (He.ga K "Page") (pgF K x.e (x.h.take (x.now + 1)))) ms := by
  rw [← rPage_eq hv]
  exact ev_mtM0 (ar := fun x : IbX => [x.ar K]) (mi := fun x => x.mi K) (mo := fun x => x.mi K) (pre := fun x _ => x.pages[x.v]? = some x.r) (rs := fun x => x.r) (ls := []) (⟨pagesOf K x.h, x.now, rInts (marks x.e.ls), rPage K (x.h.take (x.now + 1)), some (x.a, x.dx)⟩ : IbX) j j (ev_var hc) hj rfl ea_nil hj rfl (pages_at hv) rfl rfl
end
section
variable {P : Program} {w : World} {K : PySem.W.Frag} {mg : Str → Option Value} {base : Heap}
/-- a method that reads -/
noncomputable abbrev spR (K : Fr) (pre : Ib → List Addr → Prop) (res : Ib → Rp) : Sp := spF (fun x L => x.ok ∧ pre x L) (fun x => [rV (.ref x.a)]) (fun x => x.c K) (fun x => x.c K) res
noncomputable abbrev spR1 (K : Fr) (pre : Ib → Int → List Addr → Prop) (res : Ib → Int → Rp) : Sp := spF (fun (x : Ib × Int) L => x.1.ok ∧ pre x.1 x.2 L) (fun x => [rV (.ref x.1.a), rI x.2]) (fun x => x.1.c K) (fun x => x.1.c K) (fun x => res x.1 x.2)
theorem sc_Inbox_marks : FnScope ["self"] ["self"] (defScope s_Inbox_marks) := ⟨rfl, rfl, rfl, by decide +kernel, rfl, by decide +kernel, by decide +kernel⟩
theorem pp_Inbox_marks (T : Tx P w K mg base) : Pp P w K mg base 1 (He.ga K "Inbox") "marks" (spR K (fun _ _ => True) (fun x => rInts (marks x.e.ls))) := by
  obtain ⟨fd, F⟩ := T.def_ di_Inbox_marks
  refine ⟨_, _, prop_of (T.fact fi_prop_Inbox_marks), fnR_of F sc_Inbox_marks (fun _ => rfl) (fun _ _ _ _ _ _ us hl => match us, hl with | [_], _ => rfl) fun cdv A outer s H0 vs Q E hr x L G hp k S => ?_⟩
  refine ⟨_, (pss_one (ps_ret (pe_fldK (K := K) (pv 0) rfl))), ?_⟩
  try dsimp only [L2.cxOf]
  exact st_retP _ (ev_fldM (ev_var rfl) (j := 0) rfl (cls_Inbox T) (na_marks T) rfl) S fun v G' H' e S' hv => k _ _ G' H' S' v hv
theorem sc_Inbox_version : FnScope ["self"] ["self"] (defScope s_Inbox_version) := ⟨rfl, rfl, rfl, by decide +kernel, rfl, by decide +kernel, by decide +kernel⟩
theorem pp_Inbox_version (T : Tx P w K mg base) : Pp P w K mg base 1 (He.ga K "Inbox") "version" (spR K (fun _ _ => True) (fun x => rN_ x.now)) := by
  obtain ⟨fd, F⟩ := T.def_ di_Inbox_version
  refine ⟨_, _, prop_of (T.fact fi_prop_Inbox_version), fnR_of F sc_Inbox_version (fun _ => rfl) (fun _ _ _ _ _ _ us hl => match us, hl with | [_], _ => rfl) fun cdv A outer s H0 vs Q E hr x L G hp k S => ?_⟩
  refine ⟨_, (pss_one (ps_ret (pe_fldK (K := K) (pv 0) rfl))), ?_⟩
  try dsimp only [L2.cxOf]
  exact st_retP _ (ev_fldM (ev_var rfl) (j := 0) rfl (cls_Inbox T) (na_version T) rfl) S fun v G' H' e S' hv => k _ _ G' H' S' v hv
theorem sc_Inbox_groups : FnScope ["self"] ["self"] (defScope s_Inbox_groups) := ⟨rfl, rfl, rfl, by decide +kernel, rfl, by decide +kernel, by decide +kernel⟩
theorem pp_Inbox_groups (T : Tx P w K mg base) : Pp P w K mg base 2 (He.ga K "Inbox") "groups" (spR K (fun _ _ => True) (fun x => rTup ((groups x.e).map rInts))) := by
  obtain ⟨fd, F⟩ := T.def_ di_Inbox_groups
  refine ⟨_, _, prop_of (T.fact fi_prop_Inbox_groups), fnR_of F sc_Inbox_groups (fun _ => rfl) (fun _ _ _ _ _ _ us hl => match us, hl with | [_], _ => rfl) fun cdv A outer s H0 vs Q E hr x L G hp k S => ?_⟩
  have m_Inbox_page := mt_Inbox_page T
  refine ⟨_, (pss_one (ps_ret (pe_fldK (K := K) (pe_mt0 (T.cls fi_cls_Inbox) m_Inbox_page hr (by decide) (pv 0)) rfl))), ?_⟩
  try dsimp only [L2.cxOf]
  exact st_retP _ (ev_fld (ev_page x (i := 0) (j := 0) rfl rfl hp.1.2) (cls_Page T) (na_groups T) rfl) S fun v G' H' e S' hv => k _ _ G' H' S' v hv
theorem sc_Inbox_rule : FnScope ["self"] ["self"] (defScope s_Inbox_rule) := ⟨rfl, rfl, rfl, by decide +kernel, rfl, by decide +kernel, by decide +kernel⟩
theorem pp_Inbox_rule (T : Tx P w K mg base) : Pp P w K mg base 2 (He.ga K "Inbox") "rule" (spR K (fun _ _ => True) (fun x => rRule K x.e.ps x.e.se)) := by
  obtain ⟨fd, F⟩ := T.def_ di_Inbox_rule
  refine ⟨_, _, prop_of (T.fact fi_prop_Inbox_rule), fnR_of F sc_Inbox_rule (fun _ => rfl) (fun _ _ _ _ _ _ us hl => match us, hl with | [_], _ => rfl) fun cdv A outer s H0 vs Q E hr x L G hp k S => ?_⟩
  have m_Inbox_page := mt_Inbox_page T
  refine ⟨_, (pss_one (ps_ret (pe_fldK (K := K) (pe_mt0 (T.cls fi_cls_Inbox) m_Inbox_page hr (by decide) (pv 0)) rfl))), ?_⟩
  try dsimp only [L2.cxOf]
  exact st_retP _ (ev_fld (ev_page x (i := 0) (j := 0) rfl rfl hp.1.2) (cls_Page T) (na_rule T) rfl) S fun v G' H' e S' hv => k _ _ G' H' S' v hv
theorem sc_Inbox_len : FnScope ["self"] ["self"] (defScope s_Inbox_len) := ⟨rfl, rfl, rfl, by decide +kernel, rfl, by decide +kernel, by decide +kernel⟩
theorem ow_Inbox_len (T : Tx P w K mg base) : Ow P w K mg base 2 (He.ga K "Inbox") "__len__" (spR K (fun _ L => L = []) (fun x => rN_ x.e.ls.length)) := by
  obtain ⟨fd, F⟩ := T.def_ di_Inbox_len
  refine ⟨_, (own_of (T.fact fi_own_Inbox__len_)).1, (own_of (T.fact fi_own_Inbox__len_)).2.1, (own_of (T.fact fi_own_Inbox__len_)).2.2, fnR_of F sc_Inbox_len (fun _ => rfl) (fun _ _ _ _ _ _ us hl => match us, hl with | [_], _ => rfl) fun cdv A outer s H0 vs Q E hr x L G hp k S => ?_⟩
  have m_Inbox_page := mt_Inbox_page T
  obtain ⟨ho, rfl⟩ := hp
  refine ⟨_, (pss_one (ps_ret (pe_callB (id := "len") call_lenD (by rfl) (T.free fi_free_len) (by decide +kernel) (pa_cons (pe_fldK (K := K) (pe_mt0 (T.cls fi_cls_Inbox) m_Inbox_page hr (by decide) (pv 0)) rfl) pa_nil)))), ?_⟩
  try dsimp only [L2.cxOf]
  refine st_retP (rN_ x.e.ls.length) ?_ S fun v G' H' e S' hv => k _ _ G' H' S' v hv
  refine ev_is (ev_cb (ea_cons (ev_fld (ev_page x (i := 0) (j := 0) rfl rfl ho.2) (cls_Page T) (na_letters T) rfl) ea_nil) rc_lenD) ?_
  rw [List.length_map, (srt_perm _).length_eq]
theorem sc_Inbox_contains : FnScope ["self", "value"] ["self", "value"] (defScope s_Inbox_contains) := ⟨rfl, rfl, rfl, by decide +kernel, rfl, by decide +kernel, by decide +kernel⟩
theorem ow_Inbox_contains (T : Tx P w K mg base) : Ow P w K mg base 3 (He.ga K "Inbox") "__contains__" (spR1 K (fun x i _ => 0 ≤ i) (fun x i => rB (decide (i ∈ marks x.e.ls)))) := by
  obtain ⟨fd, F⟩ := T.def_ di_Inbox_contains
  refine ⟨_, (own_of (T.fact fi_own_Inbox__contains_)).1, (own_of (T.fact fi_own_Inbox__contains_)).2.1, (own_of (T.fact fi_own_Inbox__contains_)).2.2, fnR_of F sc_Inbox_contains (fun _ => rfl) (fun _ _ _ _ _ _ us hl => match us, hl with | [_, _], _ => rfl) fun cdv A outer s H0 vs Q E hr z L G hp k S => ?_⟩
  have m_Inbox_page := mt_Inbox_page T
  have c_is_mark := cl_is_mark T
  obtain ⟨x, i⟩ := z
  obtain ⟨ho, hi⟩ := hp
  refine ⟨_, (pss_one (ps_ret (pe_and (pe_callR c_is_mark hr (by decide) (by rfl) (pa_cons (pv 1) pa_nil)) (pe_one (pe_cmp (pc_din (hu_of hr) (pv 1) (pe_fldK (K := K) (pe_mt0 (T.cls fi_cls_Inbox) m_Inbox_page hr (by decide) (pv 0)) rfl)) rfl))))), ?_⟩
  try dsimp only [L2.cxOf]
  refine st_retP (rB (decide (i ∈ marks x.e.ls))) ?_ S fun v G' H' e S' hv => k _ _ G' H' S' v hv
  refine ev_b (ev_andV (ev_call i (ea_cons (ev_var rfl) ea_nil) hi) fun _ => ev_din (ev_var rfl) (ev_fld (ev_page x (i := 0) (j := 0) rfl rfl ho.2) (cls_Page T) (na_letters T) rfl)) ?_
  rw [Bool.true_and, look_map]
  rfl
theorem mark_pos {e : Ent} (h : okE e) {i : Int} (hi : i ∈ marks e.ls) : 0 ≤ i := by
  obtain ⟨a, ha, e⟩ := List.mem_map.mp (mem_marks.mp hi)
  rw [← e]
  exact (h.ls.ok a ha).m0
/-- i in o, o not in: a cell -/
theorem rv_inOM {B : Bs} {L : List Addr} {ctx : Ct} {ms : Ms} {α : Type} {pre : α → List Addr → Prop} {ar : α → List Rp} {mi : α → Ms} {res : α → Rp} {C dx a : Addr} {fs : List (Str × Rp)} {E : XK} {r : Rp} {b neg : Bool} {j : Nat} (x : α) (hp : pre x L) (hj : ms[j]? = some (a, .ins C dx fs)) (hx : ar x = [rV (.ref a), r]) (hi : mi x = [(a, .ins C dx fs)]) (hb : res x = rB b) :
    RvM B L (rInO C (spF pre ar mi mi res) E neg) r (rV (.ref a)) ctx ms (rB (if neg then !b else b)) ms := fun σ G H v w S hv hw Q k => by
  have c : CAt a G H (.ins C dx fs) := S.mem.at_ _ (List.mem_of_getElem? hj)
  cases c with
  | @ins _ _ _ gs ha hal =>
    refine ⟨a, dx, gs, hw, ha, x, L, hp, ?_⟩
    rw [hi]
    refine pr_use1 hj S (by rw [hx]; exact .cons rfl (.cons hv .nil)) fun z G' H' e S' hz => ?_
    rw [hb] at hz
    rw [set_same hj] at S'
    exact ⟨b, hz, k _ G' H' e S' rfl⟩
theorem sc_Inbox_require_there : FnScope ["self", "mark"] ["self", "mark"] (defScope s_Inbox_require_there) := ⟨rfl, rfl, rfl, by decide +kernel, rfl, by decide +kernel, by decide +kernel⟩
theorem mt_Inbox_require_there (T : Tx P w K mg base) : Mt P w K mg base 4 (He.ga K "Inbox") "require_there" (spR1 K (fun x i _ => i ∈ marks x.e.ls) (fun _ _ => rN)) := by
  obtain ⟨fd, F⟩ := T.def_ di_Inbox_require_there
  refine ⟨_, T.meth fi_meth_Inbox_require_there, fnR_of F sc_Inbox_require_there (fun _ => rfl) (fun _ _ _ _ _ _ us hl => match us, hl with | [_, _], _ => rfl) fun cdv A outer s H0 vs Q E hr z L G hp k S => ?_⟩
  have o_Inbox_contains := ow_Inbox_contains T
  obtain ⟨x, i⟩ := z
  obtain ⟨ho, hi⟩ := hp
  refine ⟨_, (pss_one (ps_if (pt_cmpR (op_notIn_ o_Inbox_contains hr (by decide)) (pv 1) (pv 0) (by rfl)) (pss_one ps_never) pss_nil)), ?_⟩
  try dsimp only [L2.cxOf]
  refine st_ifFP (et_b (et_val (ev_op (ev_var rfl) (ev_var rfl) (rv_inOM (j := 0) (x, i) ⟨ho, mark_pos ho.e hi⟩ rfl rfl rfl rfl))) ?_) S fun G1 H1 e1 S1 => ?_
  · show (!decide (i ∈ marks x.e.ls)) = false
    rw [decide_eq_true hi]; rfl
  · exact k _ _ G1 H1 S1 .non rfl
theorem ev_there {B : Bs} {L : List Addr} {ctx : Ct} {ms : Ms} {i j v : Nat} (x : Ib) (m : Int) (hc : ctx[i]? = some (some (rV (.ref x.a)))) (hm : ctx[v]? = some (some (rI m))) (hj : ms[j]? = some (x.a, cInb K x.dx x.h x.now)) (ho : x.ok) (hi : m ∈ marks x.e.ls) :
    EvM B L (tMethR (He.ga K "Inbox") "require_there" (spR1 K (fun x i _ => i ∈ marks x.e.ls) (fun _ _ => rN)) E0 (tVar i) (tCons (tVar v) tNil)) ctx ms rN ms :=
  ev_mtM0 (rs := fun _ => rN) (ls := [rI m]) (x, m) j j (ev_var hc) hj rfl (ea_cons (ev_var hm) ea_nil) hj rfl ⟨ho, hi⟩ rfl rfl
theorem sc_Inbox_shown : FnScope ["self", "mark"] ["self", "mark"] (defScope s_Inbox_shown) := ⟨rfl, rfl, rfl, by decide +kernel, rfl, by decide +kernel, by decide +kernel⟩
theorem mt_Inbox_shown (T : Tx P w K mg base) : Mt P w K mg base 5 (He.ga K "Inbox") "shown" (spR1 K (fun x i _ => i ∈ marks x.e.ls) (fun x i => rOpt (plc x.e i))) := by
  obtain ⟨fd, F⟩ := T.def_ di_Inbox_shown
  refine ⟨_, T.meth fi_meth_Inbox_shown, fnR_of F sc_Inbox_shown (fun _ => rfl) (fun _ _ _ _ _ _ us hl => match us, hl with | [_, _], _ => rfl) fun cdv A outer s H0 vs Q E hr z L G hp k S => ?_⟩
  have m_Inbox_page := mt_Inbox_page T
  have m_Inbox_require_there := mt_Inbox_require_there T
  obtain ⟨x, i⟩ := z
  obtain ⟨ho, hi⟩ := hp
  refine ⟨_, (pss_cons (ps_expr (pe_mt (T.cls fi_cls_Inbox) m_Inbox_require_there hr (by decide) (pv 0) (pa_cons (pv 1) pa_nil)))
    (pss_one (ps_ret (pe_dget (hu_of hr) (pe_fldK (K := K) (pe_mt0 (T.cls fi_cls_Inbox) m_Inbox_page hr (by decide) (pv 0)) rfl) (pv 1) (fun _ _ => rfl))))), ?_⟩
  try dsimp only [L2.cxOf]
  refine st_dropP (ev_there x i (j := 0) rfl rfl rfl ho hi) S fun G1 H1 e1 S1 => ?_
  dsimp only
  refine st_retP (rOpt (plc x.e i)) ?_ S1 fun v G' H' e S' hv => k _ _ G' H' S' v hv
  exact ev_dget (ev_fld (ev_page x (i := 0) (j := 0) rfl rfl ho.2) (cls_Page T) (na_shown T) rfl) (ev_var rfl) (look_fn (f := fun m => rOpt (plc x.e m)) hi)
theorem sc_Inbox_moves : FnScope ["self", "mark"] ["self", "mark"] (defScope s_Inbox_moves) := ⟨rfl, rfl, rfl, by decide +kernel, rfl, by decide +kernel, by decide +kernel⟩
theorem mt_Inbox_moves (T : Tx P w K mg base) : Mt P w K mg base 5 (He.ga K "Inbox") "moves" (spR1 K (fun x i _ => i ∈ marks x.e.ls) (fun x i => rN_ (mvs (x.h.take (x.now + 1)) i))) := by
  obtain ⟨fd, F⟩ := T.def_ di_Inbox_moves
  refine ⟨_, T.meth fi_meth_Inbox_moves, fnR_of F sc_Inbox_moves (fun _ => rfl) (fun _ _ _ _ _ _ us hl => match us, hl with | [_, _], _ => rfl) fun cdv A outer s H0 vs Q E hr z L G hp k S => ?_⟩
  have m_Inbox_page := mt_Inbox_page T
  have m_Inbox_require_there := mt_Inbox_require_there T
  obtain ⟨x, i⟩ := z
  obtain ⟨ho, hi⟩ := hp
  refine ⟨_, (pss_cons (ps_expr (pe_mt (T.cls fi_cls_Inbox) m_Inbox_require_there hr (by decide) (pv 0) (pa_cons (pv 1) pa_nil)))
    (pss_one (ps_ret (pe_dget (hu_of hr) (pe_fldK (K := K) (pe_mt0 (T.cls fi_cls_Inbox) m_Inbox_page hr (by decide) (pv 0)) rfl) (pv 1) (fun _ _ => rfl))))), ?_⟩
  try dsimp only [L2.cxOf]
  refine st_dropP (ev_there x i (j := 0) rfl rfl rfl ho hi) S fun G1 H1 e1 S1 => ?_
  dsimp only
  refine st_retP (rN_ (mvs (x.h.take (x.now + 1)) i)) ?_ S1 fun v G' H' e S' hv => k _ _ G' H' S' v hv
  exact ev_dget (ev_fld (ev_page x (i := 0) (j := 0) rfl rfl ho.2) (cls_Page T) (na_moves T) rfl) (ev_var rfl) (look_fn (f := fun m => rN_ (mvs (x.h.take (x.now + 1)) m)) hi)
theorem sc_Inbox_getitem : FnScope ["self", "mark"] ["self", "mark"] (defScope s_Inbox_getitem) := ⟨rfl, rfl, rfl, by decide +kernel, rfl, by decide +kernel, by decide +kernel⟩
theorem ow_Inbox_getitem (T : Tx P w K mg base) : Ow P w K mg base 5 (He.ga K "Inbox") "__getitem__" (spR1 K (fun x i _ => i ∈ marks x.e.ls) (fun x i => rArr (arrOf x.e.ls i))) := by
  obtain ⟨fd, F⟩ := T.def_ di_Inbox_getitem
  refine ⟨_, (own_of (T.fact fi_own_Inbox__getitem_)).1, (own_of (T.fact fi_own_Inbox__getitem_)).2.1, (own_of (T.fact fi_own_Inbox__getitem_)).2.2, fnR_of F sc_Inbox_getitem (fun _ => rfl) (fun _ _ _ _ _ _ us hl => match us, hl with | [_, _], _ => rfl) fun cdv A outer s H0 vs Q E hr z L G hp k S => ?_⟩
  have m_Inbox_page := mt_Inbox_page T
  have m_Inbox_require_there := mt_Inbox_require_there T
  obtain ⟨x, i⟩ := z
  obtain ⟨ho, hi⟩ := hp
  refine ⟨_, (pss_cons (ps_expr (pe_mt (T.cls fi_cls_Inbox) m_Inbox_require_there hr (by decide) (pv 0) (pa_cons (pv 1) pa_nil)))
    (pss_one (ps_ret (pe_dget (hu_of hr) (pe_fldK (K := K) (pe_mt0 (T.cls fi_cls_Inbox) m_Inbox_page hr (by decide) (pv 0)) rfl) (pv 1) (fun _ _ => rfl))))), ?_⟩
  try dsimp only [L2.cxOf]
  refine st_dropP (ev_there x i (j := 0) rfl rfl rfl ho hi) S fun G1 H1 e1 S1 => ?_
  dsimp only
  refine st_retP (rArr (arrOf x.e.ls i)) ?_ S1 fun v G' H' e S' hv => k _ _ G' H' S' v hv
  have el : (srt x.e.ls).map (fun a => (a.m, rArr a)) = (marks x.e.ls).map fun m => (m, rArr (arrOf x.e.ls m)) := by
    rw [srt_marks ho.e.ls.nd, List.map_map]
    refine List.map_congr_left fun m hm => ?_
    have := (arrOf_in (mem_marks.mp hm)).2
    show ((arrOf x.e.ls m).m, _) = _
    rw [this]
  exact ev_dget (ev_fld (ev_page x (i := 0) (j := 0) rfl rfl ho.2) (cls_Page T) (na_letters T) rfl) (ev_var rfl) (by rw [el]; exact look_fn (f := fun m => rArr (arrOf x.e.ls m)) hi)
/-! ### undo, redo -/
abbrev spReqMany : Sp := spP (fun (x : Nat × Nat) _ => x.1 ≤ x.2) (fun x => [rN_ x.1, rN_ x.2]) (fun _ => rN)
theorem sc_require_many : FnScope ["many", "most"] ["many", "most"] (defScope s_require_many) := ⟨rfl, rfl, rfl, by decide +kernel, rfl, by decide +kernel, by decide +kernel⟩
theorem cl_require_many (T : Tx P w K mg base) : Cl P w K mg base 2 "require_many" spReqMany := by
  obtain ⟨fd, F⟩ := T.def_ di_require_many
  refine ⟨_, T.glo fi_glo_require_many, F.kp, fnR_of F sc_require_many (fun _ => rfl) (fun _ _ _ _ _ _ us hl => match us, hl with | [_, _], _ => rfl) fun cdv A outer s H0 vs Q E hr z L G hp k S => ?_⟩
  have c_is_integer := cl_is_integer T
  obtain ⟨m, n⟩ := z
  have hmn : m ≤ n := hp
  refine ⟨_, (pss_cons (ps_if (PW.pt (pw_or (pt_not (pt_val (pe_callR c_is_integer hr (by decide) (by rfl) (pa_cons (pv 0) pa_nil)))) (pw_or1 (pt_cmpR op_lt (pv 0) pe_int (nomark _))))) (pss_one ps_never) pss_nil)
    (pss_one (ps_if (pt_cmpR op_gt (pv 0) (pv 1) (nomark _)) (pss_one ps_never) pss_nil))), ?_⟩
  try dsimp only [L2.cxOf]
  refine st_ifFP (et_b (b := !true || decide ((m : Int) < 0)) (et_or (et_not (et_B (ev_call (m : Int) (ea_cons (ev_var rfl) ea_nil) trivial))) fun _ => et_val (ev_op (ev_var rfl) ev_c rv_I0)) (by simp)) S fun G1 H1 e1 S1 => ?_
  dsimp only [tNext]
  refine st_ifFP (et_b (b := decide ((m : Int) > (n : Int))) (et_val (ev_op (ev_var rfl) (ev_var rfl) rv_I0)) (by simp; omega)) S1 fun G2 H2 e2 S2 => ?_
  exact k _ _ G2 H2 S2 .non rfl
noncomputable abbrev spUndo (K : Fr) : Sp := spF (fun (x : Ib × Nat) L => x.1.ok ∧ x.2 ≤ x.1.now) (fun x => [rV (.ref x.1.a), rN_ x.2]) (fun x => x.1.c K) (fun x => [(x.1.a, cInb K x.1.dx x.1.h (x.1.now - x.2))]) (fun x => rN_ (x.1.now - x.2))
theorem ev_goTo {B : Bs} {L : List Addr} {ctx : Ct} {ms : Ms} {tl : TA} {i j v : Nat} (x : Ib) (hc : ctx[i]? = some (some (rV (.ref x.a)))) (hj : ms[j]? = some (x.a, cInb K x.dx x.h x.now)) (ha : EvA B L tl ctx ms [rN_ v] ms) (hv : v < x.h.length) :
    EvM B L (tMethR (He.ga K "Inbox") "go_to" (spGoTo K) E0 (tVar i) tl) ctx ms rN (ms.set j (x.a, cInb K x.dx x.h v)) :=
  ev_mtM (rs := fun _ => rN) (ls := [rN_ v]) (x.h, x.now, rInts (marks x.e.ls), v, x.a, x.dx) j j (ev_var hc) hj rfl ha hj rfl hv rfl rfl
theorem sc_Inbox_undo : FnScope ["self", "many"] ["self", "many"] (defScope s_Inbox_undo) := ⟨rfl, rfl, rfl, by decide +kernel, rfl, by decide +kernel, by decide +kernel⟩
theorem ok_Inbox_undo (T : Tx P w K mg base) : ∃ fd, FunD K d_Inbox_undo.name d_Inbox_undo.qual d_Inbox_undo.params d_Inbox_undo.body d_Inbox_undo.scope [] [("many", .int 1)] (d_Inbox_undo.at_ K) fd ∧ FnOk P w K mg base CX0 3 (d_Inbox_undo.at_ K) fd ["self", "many"] (spUndo K) := by
  have c_require_many := cl_require_many T
  have m_Inbox_go_to := mt_Inbox_go_to T
  obtain ⟨fd, F⟩ := T.def_ di_Inbox_undo
  refine ⟨fd, F, fnOk_of F sc_Inbox_undo (fun _ => rfl) fun cdv A outer s H0 vs Q E hr z L G hp k S => ?_⟩
  obtain ⟨x, n⟩ := z
  have ho : x.ok := hp.1
  have hn : n ≤ x.now := hp.2
  have hv : x.now < x.h.length := ho.2
  refine ⟨_, (pss_cons (ps_expr (pe_callR c_require_many hr (by decide) (by rfl) (pa_cons (pv 1) (pa_cons (pe_fldK (K := K) (pv 0) rfl) pa_nil))))
    (pss_cons (ps_expr (pe_mt (T.cls fi_cls_Inbox) m_Inbox_go_to hr (by decide) (pv 0) (pa_cons (pe_op op_sub (pe_fldK (K := K) (pv 0) rfl) (pv 1)) pa_nil)))
    (pss_one (ps_ret (pe_fldK (K := K) (pv 0) rfl))))), ?_⟩
  try dsimp only [L2.cxOf]
  refine st_dropP (ev_call (n, x.now) (ea_cons (ev_var rfl) (ea_cons (ev_fldM (ev_var rfl) (j := 0) rfl (cls_Inbox T) (na_version T) rfl) ea_nil)) hn) S fun G1 H1 e1 S1 => ?_
  dsimp only
  refine st_drop (ev_goTo x (j := 0) (v := x.now - n) rfl rfl (ea_cons (ev_is (ev_op (ev_fldM (ev_var rfl) (j := 0) rfl (cls_Inbox T) (na_version T) rfl) (ev_var rfl) rv_I0) ?_) ea_nil) (by omega)) S1 fun G2 H2 e2 S2 => ?_
  · show rI ((x.now : Int) - n) = rI ((x.now - n : Nat) : Int)
    congr 1; omega
  dsimp only
  exact st_retP (rN_ (x.now - n)) (ev_fldM (ev_var rfl) (j := 0) rfl (cls_Inbox T) (na_version T) rfl) S2 fun v G' H' e S' hv => k _ _ G' H' S' v hv
theorem mk_Inbox_undo_ (T : Tx P w K mg base) : MtK P w K mg base 3 (He.ga K "Inbox") "undo" ["many"] (spUndo K) := by
  obtain ⟨fd, F, ok⟩ := ok_Inbox_undo T
  obtain ⟨mv, hb⟩ := FunD.kbinds0 (ps := ["self", "many"]) F 1 ["many"] [] (fun us _ ws => us ++ ws) (by simp) (by simp) (fun r1 r2 r3 => r1.append r3) (fun D doc pm an cdv ct us mv ws h1 h2 h3 => match us, mv, ws, h1, h2, h3 with | [_], [], [_], _, _, _ => rfl)
  exact ⟨_, fd, _, T.meth fi_meth_Inbox_undo, ok, hb⟩
noncomputable abbrev spUndo1 (K : Fr) : Sp := spF (fun (x : Ib) L => x.ok ∧ 1 ≤ x.now) (fun x => [rV (.ref x.a)]) (fun x => x.c K) (fun x => [(x.a, cInb K x.dx x.h (x.now - 1))]) (fun x => rN_ (x.now - 1))
theorem m_Inbox_undo_ (T : Tx P w K mg base) : Mt P w K mg base 3 (He.ga K "Inbox") "undo" (spUndo1 K) := by
  obtain ⟨fd, F, ok⟩ := ok_Inbox_undo T
  obtain ⟨ds, hd, hb⟩ := FunD.binds0 (ps := ["self", "many"]) F 1 (by simp) rfl (fun D doc pm an cdv ct us ks h1 h2 => match us, ks, h1, h2 with | [_], [_], _, _ => ⟨_, _, _, _, _, _, rfl, rfl, rfl⟩)
  refine ⟨_, T.meth fi_meth_Inbox_undo, (ok.raw hb hd).imp fun vs H Q E h => ?_⟩
  obtain ⟨x, L, hp, G, xx, hal, m, kk⟩ := h
  exact ⟨(x, 1), L, hp, G, xx, Al.app (rs := [rV (.ref x.a)]) (ss := [rN_ 1]) hal (.cons rfl .nil), m, kk⟩
noncomputable abbrev spRedo (K : Fr) : Sp := spF (fun (x : Ib × Nat) L => x.1.ok ∧ x.1.now + x.2 < x.1.h.length) (fun x => [rV (.ref x.1.a), rN_ x.2]) (fun x => x.1.c K) (fun x => [(x.1.a, cInb K x.1.dx x.1.h (x.1.now + x.2))]) (fun x => rN_ (x.1.now + x.2))
theorem sc_Inbox_redo : FnScope ["self", "many"] ["self", "many"] (defScope s_Inbox_redo) := ⟨rfl, rfl, rfl, by decide +kernel, rfl, by decide +kernel, by decide +kernel⟩
theorem pagesOf_len {h : List Ent} : (pagesOf K h).length = h.length := by unfold pagesOf; rw [List.length_map, List.length_range]
theorem ok_Inbox_redo (T : Tx P w K mg base) : ∃ fd, FunD K d_Inbox_redo.name d_Inbox_redo.qual d_Inbox_redo.params d_Inbox_redo.body d_Inbox_redo.scope [] [("many", .int 1)] (d_Inbox_redo.at_ K) fd ∧ FnOk P w K mg base CX0 3 (d_Inbox_redo.at_ K) fd ["self", "many"] (spRedo K) := by
  have c_require_many := cl_require_many T
  have m_Inbox_go_to := mt_Inbox_go_to T
  obtain ⟨fd, F⟩ := T.def_ di_Inbox_redo
  refine ⟨fd, F, fnOk_of F sc_Inbox_redo (fun _ => rfl) fun cdv A outer s H0 vs Q E hr z L G hp k S => ?_⟩
  obtain ⟨x, n⟩ := z
  have ho : x.ok := hp.1
  have hn : x.now + n < x.h.length := hp.2
  refine ⟨_, (pss_cons (ps_expr (pe_callR c_require_many hr (by decide) (by rfl) (pa_cons (pv 1) (pa_cons (pe_op op_sub (pe_op op_sub (pe_callB (id := "len") (call_lenK (K := K)) (by rfl) (T.free fi_free_len) (by decide +kernel) (pa_cons (pe_fldK (K := K) (pv 0) rfl) pa_nil)) pe_int) (pe_fldK (K := K) (pv 0) rfl)) pa_nil))))
    (pss_cons (ps_expr (pe_mt (T.cls fi_cls_Inbox) m_Inbox_go_to hr (by decide) (pv 0) (pa_cons (pe_op op_add (pe_fldK (K := K) (pv 0) rfl) (pv 1)) pa_nil)))
    (pss_one (ps_ret (pe_fldK (K := K) (pv 0) rfl))))), ?_⟩
  try dsimp only [L2.cxOf]
  refine st_dropP (ev_call (n, x.h.length - 1 - x.now) (ea_cons (ev_var rfl) (ea_cons (ev_is (ev_op (ev_op (ev_cb (ea_cons (ev_fldM (ev_var rfl) (j := 0) rfl (cls_Inbox T) (na_pages T) rfl) ea_nil) rc_lenT) ev_c rv_I0) (ev_fldM (ev_var rfl) (j := 0) rfl (cls_Inbox T) (na_version T) rfl) rv_I0) ?_) ea_nil)) (by show n ≤ x.h.length - 1 - x.now; omega)) S fun G1 H1 e1 S1 => ?_
  · show rI (((pagesOf K x.h).length : Int) - 1 - x.now) = rI ((x.h.length - 1 - x.now : Nat) : Int)
    rw [pagesOf_len]; congr 1; omega
  dsimp only
  refine st_drop (ev_goTo x (j := 0) (v := x.now + n) rfl rfl (ea_cons (ev_is (ev_op (ev_fldM (ev_var rfl) (j := 0) rfl (cls_Inbox T) (na_version T) rfl) (ev_var rfl) rv_I0) ?_) ea_nil) (by omega)) S1 fun G2 H2 e2 S2 => ?_
  · show rI ((x.now : Int) + n) = rI ((x.now + n : Nat) : Int)
    congr 1
  dsimp only
  exact st_retP (rN_ (x.now + n)) (ev_fldM (ev_var rfl) (j := 0) rfl (cls_Inbox T) (na_version T) rfl) S2 fun v G' H' e S' hv => k _ _ G' H' S' v hv
theorem mk_Inbox_redo_ (T : Tx P w K mg base) : MtK P w K mg base 3 (He.ga K "Inbox") "redo" ["many"] (spRedo K) := by
  obtain ⟨fd, F, ok⟩ := ok_Inbox_redo T
  obtain ⟨mv, hb⟩ := FunD.kbinds0 (ps := ["self", "many"]) F 1 ["many"] [] (fun us _ ws => us ++ ws) (by simp) (by simp) (fun r1 r2 r3 => r1.append r3) (fun D doc pm an cdv ct us mv ws h1 h2 h3 => match us, mv, ws, h1, h2, h3 with | [_], [], [_], _, _, _ => rfl)
  exact ⟨_, fd, _, T.meth fi_meth_Inbox_redo, ok, hb⟩
noncomputable abbrev spRedo1 (K : Fr) : Sp := spF (fun (x : Ib) L => x.ok ∧ x.now + 1 < x.h.length) (fun x => [rV (.ref x.a)]) (fun x => x.c K) (fun x => [(x.a, cInb K x.dx x.h (x.now + 1))]) (fun x => rN_ (x.now + 1))
theorem m_Inbox_redo_ (T : Tx P w K mg base) : Mt P w K mg base 3 (He.ga K "Inbox") "redo" (spRedo1 K) := by
  obtain ⟨fd, F, ok⟩ := ok_Inbox_redo T
  obtain ⟨ds, hd, hb⟩ := FunD.binds0 (ps := ["self", "many"]) F 1 (by simp) rfl (fun D doc pm an cdv ct us ks h1 h2 => match us, ks, h1, h2 with | [_], [_], _, _ => ⟨_, _, _, _, _, _, rfl, rfl, rfl⟩)
  refine ⟨_, T.meth fi_meth_Inbox_redo, (ok.raw hb hd).imp fun vs H Q E h => ?_⟩
  obtain ⟨x, L, hp, G, xx, hal, m, kk⟩ := h
  exact ⟨(x, 1), L, hp, G, xx, Al.app (rs := [rV (.ref x.a)]) (ss := [rN_ 1]) hal (.cons rfl .nil), m, kk⟩
end
end K62
set_option maxHeartbeats 4000000
/-! K62Ex: promises with new cells; comprehensions that change cells or draw; the dice's cell. -/
namespace K62
open PySem PySem.Spec PyProof.Rows L2
/-! ### promises with new cells -/
def PrE {β : Type} (L : List Addr) (ar : List Rp) (mi : Ms) (mo : β → Ms) (res : β → Rp) (vs : List V) (H : Hp) (Q : VK) : Prop :=
  ∃ G, ExL L G H ∧ Al ar vs G ∧ Mem mi G H ∧ ∀ b v G' H', Stp (mi.map (·.1)) G H G' H' → ExL L G' H' → Mem (mo b) G' H' → (∀ p ∈ mo b, p.1 ∈ mi.map (·.1) ∨ H p.1 = none) → (res b).ok v G' → Q v H'
def spE {α β : Type} (pre : α → List Addr → Prop) (ar : α → List Rp) (mi : α → Ms) (mo : α → β → Ms) (res : α → β → Rp) : Sp := fun vs H Q _ => ∃ (x : α) (L : List Addr), pre x L ∧ PrE L (ar x) (mi x) (mo x) (res x) vs H Q
section
variable {P : Program} {w : World} {K : PySem.W.Frag} {mg : Str → Option Value} {base : Heap}
theorem fnE_of {α β : Type} {pre : α → List Addr → Prop} {ar : α → List Rp} {mi : α → Ms} {mo : α → β → Ms} {res : α → β → Rp} {x qual : Str} {params : Arguments} {body : List Stmt} {scope : Scope} {kws : List (Str × V)} {f : Addr} {fd : FuncData} {N ps : List Str} {k : Nat}
    (F : FunD K x qual params body scope [] kws f fd) (S : FnScope N ps scope) (hl : ∀ x, (ar x).length = ps.length)
    (hb : ∀ (kV doc pm : Value) (an : Option Addr) (cdv ct : Value) (us : List Value), us.length = ps.length → bindArgs (PySem.W.fnOf x qual params body scope .none kV doc pm an cdv ct) ⟨us, []⟩ = pure (ps.zip us))
    (hbody : ∀ (cdv : Value) (A : Around) (outer : List Env) (s : Shared) (H0 : Hp) (vs : List V) (Q : VK) (E : XK), Room k (A.deeper (envOfC qual scope s.heap.objs.size f cdv)) → ∀ (z : α) (L : List Addr) (G : Hp), pre z L →
      (∀ b ctx σ G' H', Sx ⟨(mi z).map (·.1), G, H0⟩ L ctx (mo z b) σ G' H' → ∀ v, (res z b).ok v G' → Q v H') →
      Sx ⟨(mi z).map (·.1), G, H0⟩ L ((ar z).map some ++ List.replicate (N.length - (ar z).length) none) (mi z) (L2.start N vs) G H0 →
      ∃ t, PSs (cxOf CX0 P w K mg base N qual scope f cdv A outer s H0 E).nox body t ∧ t { nx := fun _ H' => Q .non H', rt := Q } (L2.start N vs) H0) :
    FnR P w K mg base CX0 (k + 1) f (spE pre ar mi mo res) := by
  have F1 : FnOk P w K mg base CX0 (k + 1) f fd ps (spE pre ar mi mo res) := by
    refine F.ok S (fun vs H Q E h => ?_) (fun cdv A outer s H vs Q E hr h => ?_)
    · obtain ⟨z, L, _, G, _, hal, _⟩ := h
      rw [← hal.len, hl]
    · obtain ⟨z, L, hp, G, x, hal, m, kk⟩ := h
      obtain ⟨t, h1, h2⟩ := hbody cdv A outer s H vs Q E hr z L G hp (fun b ctx σ G' H' S' v hv => kk b v G' H' S'.stp S'.ex S'.mem (fun p hp => S'.own p hp) hv) (sx_start x hal m)
      exact ⟨t, h1.nox, h2⟩
  have F2 := F1.raw (FunD.bindsN F hb) .nil
  exact F2.imp fun vs H Q E h => by rw [List.append_nil]; exact h
end
section
variable {B : Bs} {L : List Addr} {ctx : Ct} {ms ms1 : Ms} {te ta tb : TE} {tl : TA} {tt : TT} {wi : TI} {g : TG} {r : Rp} {rs : List Rp} {K : PySem.W.Frag} {σ : L2.St} {G H : Hp} {vs : List V} {Q : VK}
/-- the cells mi go in, mo b come out -/
theorem pr_useE {β : Type} {ar : List Rp} {mi : Ms} {mo : β → Ms} {res : β → Rp} (S : Sx B L ctx (mi ++ ms) σ G H) (hal : Al ar vs G) (k : ∀ b v G' H', Same G G' → Sx B L ctx (mo b ++ ms) σ G' H' → (res b).ok v G' → Q v H') : PrE L ar mi mo res vs H Q := by
  have nd : ((mi ++ ms).map (·.1)).Nodup := S.mem.nd
  rw [List.map_append] at nd
  obtain ⟨nd1, nd2, nd3⟩ := List.nodup_append.mp nd
  refine ⟨G, S.ex, hal, ⟨fun p hp => S.mem.at_ p (List.mem_append_left _ hp), fun p hp => S.mem.out p (List.mem_append_left _ hp), nd1⟩, fun b v G' H' s x m fr hr => ?_⟩
  have e : Same G G' := s.same S.ex
  have msk : ∀ p ∈ ms, H' p.1 = H p.1 ∧ G' p.1 = none ∧ ∃ u, H p.1 = some u := fun p hp => by
    obtain ⟨u, hu⟩ := (S.mem.at_ p (List.mem_append_right _ hp)).some_
    have hu : H p.1 = some u := hu
    have n : p.1 ∉ mi.map (·.1) := fun z => nd3 p.1 z p.1 (List.mem_map.mpr ⟨p, hp, rfl⟩) rfl
    exact ⟨(s.keep _ _ n hu).trans hu.symm, by rw [s.old _ _ hu]; exact S.mem.out p (List.mem_append_right _ hp), u, hu⟩
  have dis : ∀ p ∈ mo b, ∀ q ∈ ms, p.1 ≠ q.1 := fun p hp q hq z => by
    rcases fr p hp with y | y
    · exact nd3 p.1 y q.1 (List.mem_map.mpr ⟨q, hq, rfl⟩) z
    · obtain ⟨_, _, u, hu⟩ := msk q hq
      rw [z, hu] at y
      cases y
  refine k b v G' H' e ⟨S.sl.mono e, x, ⟨fun p hp => ?_, fun p hp => ?_, ?_⟩, S.stp.then_ s (fun c hc => ?_), fun p hp => ?_⟩ hr
  · rcases List.mem_append.mp hp with z | z
    · exact m.at_ p z
    · exact (S.mem.at_ p (List.mem_append_right _ z)).move e (msk p z).1
  · rcases List.mem_append.mp hp with z | z
    · exact m.out p z
    · exact (msk p z).2.1
  · rw [List.map_append]
    refine List.nodup_append.mpr ⟨m.nd, nd2, fun a ha c hc z => ?_⟩
    obtain ⟨p, hp, rfl⟩ := List.mem_map.mp ha
    obtain ⟨q, hq, rfl⟩ := List.mem_map.mp hc
    exact dis p hp q hq z
  · obtain ⟨q, hq, e⟩ := List.mem_map.mp hc
    subst e
    exact S.own q (List.mem_append_left _ hq)
  · rcases List.mem_append.mp hp with z | z
    · rcases fr p z with y | y
      · obtain ⟨q, hq, e⟩ := List.mem_map.mp y
        rw [← e]
        exact S.own q (List.mem_append_left _ hq)
      · refine .inr ?_
        cases q : B.H p.1 with
        | none => rfl
        | some u => obtain ⟨u', e'⟩ := S.stp.there _ _ q; rw [y] at e'; cases e'
    · exact S.own p (List.mem_append_right _ z)

/-! ### comprehensions, whatever they do -/
/-- a walked thing, one of several -/
def EvIx {γ : Type} (B : Bs) (L : List Addr) (wi : TI) (ctx : Ct) (ms : Ms) (P : γ → Prop) (rsf : γ → List Rp) (ms' : Ms) : Prop := ∀ (σ : L2.St) (G H : Hp), Sx B L ctx ms σ G H → ∀ R : It → Hp → Prop, (∀ c J G' H', P c → Same G G' → Sx B L ctx ms' σ G' H' → Src J (rsf c) L G' H' → R J H') → wi σ H R
theorem ei_ix (h : EvI B L wi ctx ms rs ms1) : EvIx B L wi ctx ms (fun _ : Unit => True) (fun _ => rs) ms1 := fun σ G H S R k => h σ G H S R fun J G' H' e S' s => k () J G' H' trivial e S' s
/-- range(n), n drawn -/
theorem eix_rng {P : Nat → Prop} (h : EvA B L tl ctx ms [rEx P rN_] ms1) (hP : ∀ n, P n → n ≤ 100000) : EvIx B L (iRng1 tl) ctx ms P (fun n => (List.range n).map fun i => rI (i : Nat)) ms1 := fun σ G H S R k => h σ G H S _ fun vs G1 H1 e1 S1 hal => by
  obtain ⟨v, rfl, n, pn, e⟩ := al1 hal
  have e : v = .int (n : Int) := e
  subst e
  have := hP n pn
  refine ⟨(n : Int), rfl, by omega, by omega, k n _ G1 H1 pn e1 S1 ?_⟩
  have e2 : ((n : Nat) : Int).toNat = n := by omega
  rw [e2]
  exact src_rng
theorem ev_lcN {γ ι : Type} {P : γ → Prop} {rsf : γ → List Rp} {vs : List Nat} {mf : ι → Ms} (inv : γ → Nat → ι → List Rp → Prop) (a0 : ι) (hi : EvIx B L wi ctx ms P rsf (mf a0)) (hn : ∀ c, P c → (rsf c).length ≤ 100000) (h0 : ∀ c, P c → inv c 0 a0 [])
    (turn : ∀ (c : γ) (i : Nat) (r : Rp) (a : ι) (ys : List Rp), P c → (rsf c)[i]? = some r → inv c i a ys → ∃ ctx1 : Ct, GM g r (wipeC ctx vs) ctx1 vs ∧ ∀ (B : Bs) (σ : L2.St) (G H : Hp), Sx B L ctx1 (mf a) σ G H → ∀ (Qy : V → Hp → Prop) (Qn : Hp → Prop),
      (∀ v e a' G' H', inv c (i + 1) a' (ys ++ [e]) → Same G G' → Sx B L ctx1 (mf a') σ G' H' → e.ok v G' → Qy v H') → (∀ a' G' H', inv c (i + 1) a' ys → Same G G' → Sx B L ctx1 (mf a') σ G' H' → Qn H') → tt σ H fun b H3 => if b = true then te σ H3 Qy else Qn H3)
    (S : Sx B L ctx ms σ G H) (k : ∀ c a ys v G' H', P c → inv c (rsf c).length a ys → Same G G' → Sx B L ctx (mf a) σ G' H' → (rLst ys).ok v G' → Q v H') : tLc wi g tt te vs σ H Q := hi σ G H S _ fun c J G1 H1 pc e1 S1 src => by
  intro D hD
  have gD : G1 D = none := S1.ex.free hD
  have dL : ∀ d ∈ L, d ≠ D := fun d hd e => by
    obtain ⟨o, ho⟩ := S1.ex.lk d hd
    rw [e, gD] at ho
    cases ho
  -- cells are not D, wherever D stands
  have ne_of : ∀ {ms' : Ms} {ctx' : Ct} {σ' : L2.St} {G H : Hp}, Sx ⟨(mf a0).map (·.1), G1, H1⟩ L ctx' ms' σ' G H → G D = none → True := fun _ _ => trivial
  let W : Nat → Hp → Prop := fun i H => i ≤ (rsf c).length ∧ ∃ a ys xs G, inv c i a ys ∧ ys.length ≤ i ∧ H D = some (.lst xs) ∧ Al ys xs G ∧ Same G1 G ∧ G D = none ∧ (∀ d ∈ L, H d = H1 d) ∧ (∀ p ∈ mf a, p.1 ≠ D) ∧ Sx ⟨(mf a0).map (·.1), G1, H1⟩ L ctx (mf a) σ G H
  have reD : ∀ {xs : List V} {G H : Hp} {σ' : L2.St} {ctx' : Ct} {ms' : Ms}, (∀ p ∈ ms', p.1 ≠ D) → G D = none → Sx ⟨(mf a0).map (·.1), G1, H1⟩ L ctx' ms' σ' G H → Sx ⟨(mf a0).map (·.1), G1, H1⟩ L ctx' ms' σ' G (upd H D (.lst xs)) := fun {xs G H σ' ctx' ms'} hne hG S => by
    refine ⟨S.sl, S.ex.up fun b u n e => by rw [upd_ne (fun z => n (by rw [z]; exact hG))]; exact e, ⟨fun q hq => (S.mem.at_ q hq).move (Same.refl G) (upd_ne (hne q hq)), S.mem.out, S.mem.nd⟩, ⟨S.stp.old, fun b u n e => ?_, fun b u e => ?_⟩, S.own⟩
    · have : b ≠ D := ne_of_none e hD
      rw [upd_ne this]
      exact S.stp.keep b u n e
    · have : b ≠ D := ne_of_none e hD
      rw [upd_ne this]
      exact S.stp.there b u e
  have ms0 : ∀ p ∈ mf a0, p.1 ≠ D := fun p hp e => by
    obtain ⟨u, hu⟩ := (S1.mem.at_ p hp).some_
    rw [e, hD] at hu
    cases hu
  refine ⟨fun i m H => m = (rsf c).length - i ∧ W i H, ⟨(rsf c).length, by simp, Nat.zero_le _, a0, [], [], G1, h0 c pc, Nat.le_refl _, upd_same, .nil, Same.refl G1, gD, fun d hd => upd_ne (dL d hd), ms0, reD ms0 gD S1.re⟩, ?_⟩
  rintro i m H' ⟨rfl, hle, a, ys, xs, G', hinv, hyl, hDx, hal, eG, gD', eL, msD, S'⟩
  by_cases hlt : i < (rsf c).length
  · have hr : (rsf c)[i]? = some (rsf c)[i] := List.getElem?_eq_getElem hlt
    obtain ⟨go, yld⟩ := src.go eG eL S' hr
    refine .inr ⟨go, W (i + 1), fun H'' w => ⟨(rsf c).length - (i + 1), by omega, rfl, w⟩, fun x H2 y => ?_⟩
    have SD : Sx ⟨(mf a).map (·.1), G', H'⟩ L ctx (mf a) σ G' H' := S'.re
    obtain ⟨go2, yld2⟩ := src.go eG eL SD hr
    obtain ⟨G2, e2, S3, hx⟩ := yld2 x H2 y
    obtain ⟨ctx1, hg, hb⟩ := turn c i _ a ys pc hr hinv
    have S3' : Sx ⟨(mf a).map (·.1), G', H'⟩ L (wipeC ctx vs) (mf a) (wipe σ vs) G2 H2 := S3.ctx_ (S3.sl.wipe vs)
    have nD : D ∉ (mf a).map (·.1) := fun z => by
      obtain ⟨q, hq, e⟩ := List.mem_map.mp z
      exact msD q hq e
    have keepD : ∀ {ctx' : Ct} {ms' : Ms} {σ' : L2.St} {G4 H4 : Hp}, Sx ⟨(mf a).map (·.1), G', H'⟩ L ctx' ms' σ' G4 H4 → H4 D = some (.lst xs) ∧ G4 D = none ∧ Same G' G4 ∧ (∀ d ∈ L, H4 d = H1 d) ∧ (∀ p ∈ ms', p.1 ≠ D) ∧ Sx ⟨(mf a0).map (·.1), G1, H1⟩ L ctx ms' σ G4 H4 := fun {ctx' ms' σ' G4 H4} S6 => by
      have e6 : Same G' G4 := S6.stp.same S'.ex
      refine ⟨S6.stp.keep D _ nD hDx, by rw [S6.stp.old D _ hDx]; exact gD', e6, fun d hd => ?_, fun p hp z => ?_, ?_⟩
      · rw [← eL d hd]; exact Sx.locks S' S6 d hd
      · rcases S6.own p hp with q | q
        · rw [z] at q; exact nD q
        · have q : H' p.1 = none := q
          rw [z, hDx] at q
          cases q
      · exact (S'.un S6).ctx_ (S'.sl.mono e6)
    refine hg _ L (mf a) (wipe σ vs) G2 H2 x S3' hx _ fun σ3 S4 hw => ⟨wipe_wipe hw |>.trans rfl, ?_⟩
    refine hb _ σ3 G2 H2 S4 _ _ (fun v e a' G4 H4 hinv' e4 S6 hv => ?_) (fun a' G4 H4 hinv' e4 S6 => ?_)
    · obtain ⟨k1, k2, k3, k4, k5, k6⟩ := keepD S6
      have hz := hn c pc
      refine ⟨xs, k1, line_lt ?_, hlt, a', ys ++ [e], xs ++ [v], G4, hinv', by rw [List.length_append]; exact Nat.succ_le_succ hyl, upd_same, (hal.mono k3).app (.cons hv .nil), eG.trans k3, k2, fun d hd => by rw [upd_ne (dL d hd)]; exact k4 d hd, k5, reD k5 k2 k6⟩
      rw [← hal.len]
      omega
    · obtain ⟨k1, k2, k3, k4, k5, k6⟩ := keepD S6
      exact ⟨hlt, a', ys, xs, G4, hinv', by omega, k1, hal.mono k3, eG.trans k3, k2, k4, k5, k6⟩
  · have e : i = (rsf c).length := by omega
    subst e
    refine .inl ⟨src.stop eG eL S' (Nat.le_refl _), ?_⟩
    have e3 : Same G' (upd G' D (.lst xs)) := same_upd gD'
    have S4 : Sx B L ctx (mf a) σ G' H' := S1.un S'
    refine k c a ys (.ref D) (upd G' D (.lst xs)) H' pc hinv (e1.trans (eG.trans e3)) ⟨S4.sl.mono e3, S4.ex.take gD' hDx, ⟨fun q hq => (S4.mem.at_ q hq).move e3 rfl, fun q hq => by rw [upd_ne (msD q hq)]; exact S4.mem.out q hq, S4.mem.nd⟩, ⟨fun b u q => ?_, S4.stp.keep, S4.stp.there⟩, S4.own⟩ ⟨D, xs, rfl, upd_same, hal.mono e3⟩
    have nb : b ≠ D := fun z => by
      subst z
      obtain ⟨u', q'⟩ := S1.stp.there b u q
      rw [hD] at q'
      cases q'
    rw [upd_ne nb]
    exact S4.stp.old b u q

/-! ### the dice's cell -/
theorem Sx.dice_open {a : Addr} {j : Nat} (S : Sx B L ctx ms σ G H) (hj : ms[j]? = some (a, .dice)) : ∃ x y z : Int, 0 ≤ x ∧ 0 ≤ y ∧ 0 ≤ z ∧ Sx B L ctx (ms.set j (a, .lst [rI x, rI y, rI z])) σ G H := by
  have c : CAt a G H .dice := S.mem.at_ _ (List.mem_of_getElem? hj)
  cases c with
  | @dice x y z h hx hy hz =>
    refine ⟨x, y, z, hx, hy, hz, ?_⟩
    have hu : upd H a (.lst [.int x, .int y, .int z]) = H := by
      funext b
      by_cases e : b = a
      · subst e; rw [upd_same, h]
      · rw [upd_ne e]
    have s := S.put (o := .lst [.int x, .int y, .int z]) (c' := .lst [rI x, rI y, rI z]) hj (.lst upd_same (.cons rfl (.cons rfl (.cons rfl .nil))))
    rw [hu] at s
    exact s
theorem Sx.dice_close {a : Addr} {j : Nat} {x y z : Int} (S : Sx B L ctx ms σ G H) (hj : ms[j]? = some (a, .lst [rI x, rI y, rI z])) (hx : 0 ≤ x) (hy : 0 ≤ y) (hz : 0 ≤ z) : Sx B L ctx (ms.set j (a, .dice)) σ G H := by
  have c : CAt a G H (.lst [rI x, rI y, rI z]) := S.mem.at_ _ (List.mem_of_getElem? hj)
  cases c with
  | @lst _ xs h hal =>
    obtain ⟨v, w, u, rfl, h1, h2, h3⟩ := al3 hal
    cases h1
    cases h2
    cases h3
    have hu : upd H a (.lst [.int x, .int y, .int z]) = H := by
      funext b
      by_cases e : b = a
      · subst e; rw [upd_same, h]
      · rw [upd_ne e]
    have s := S.put (o := .lst [.int x, .int y, .int z]) (c' := .dice) hj (.dice upd_same hx hy hz)
    rw [hu] at s
    exact s
end
end K62
set_option maxHeartbeats 4000000
/-! K62Dj: the dice and what they draw. -/
namespace K62
open PySem PySem.Spec PyProof.Rows L2
local macro_rules | `(tactic| walk_at "ev") => `(tactic| repeat' (first
  | ((with_reducible apply ev_var); exact rfl)
  | with_reducible exact ev_c
  | with_reducible exact ea_nil
  | with_reducible exact et_yes
  | with_reducible exact rv_I0
  | with_reducible exact eo_none
  | with_reducible apply eo_some
  | with_reducible apply ea_cons
  | with_reducible apply ev_op
  | (with_reducible apply ev_andV <;> try intro _)
  | (with_reducible apply ev_orV <;> try intro _)
  | with_reducible apply ev_notV
  | with_reducible apply ev_tup
  | with_reducible apply ev_lst
  | with_reducible apply ev_neg
  | with_reducible apply ev_cb
  | with_reducible apply et_B
  | with_reducible apply et_val
  | with_reducible apply et_not
  | (with_reducible apply et_and <;> try intro _)
  | (with_reducible apply et_or <;> try intro _)
  | with_reducible apply ev_call
  | with_reducible apply ev_fld
  | with_reducible exact cls_Cutter (by assumption)
  | with_reducible exact cls_Rule (by assumption)
  | with_reducible exact cls_Page (by assumption)
  | with_reducible exact cls_Inbox (by assumption)
  | with_reducible exact na_parts (by assumption)
  | with_reducible exact na_tables (by assumption)
  | with_reducible exact na_whole (by assumption)
  | with_reducible exact na_cutter (by assumption)
  | with_reducible exact na_sees (by assumption)
  | with_reducible exact na_rule (by assumption)
  | with_reducible exact na_pmarks (by assumption)
  | with_reducible exact na_letters (by assumption)
  | with_reducible exact na_bound (by assumption)
  | with_reducible exact na_shown (by assumption)
  | with_reducible exact na_moves (by assumption)
  | with_reducible exact na_near (by assumption)
  | with_reducible exact na_groups (by assumption)
  | with_reducible exact na_pages (by assumption)
  | with_reducible exact na_version (by assumption)
  | with_reducible exact na_marks (by assumption)
  | with_reducible exact isi_str (by assumption)
  | with_reducible exact isi_int (by assumption)
  | with_reducible exact isi_intbool (by assumption)
  | with_reducible exact isi_bool (by assumption)
  | with_reducible exact isi_tup (by assumption)
  | with_reducible exact isi_Cutter (by assumption)
  | with_reducible exact isi_Rule (by assumption)
  | with_reducible exact isi_Inbox (by assumption)
  | with_reducible exact rc_lenT
  | with_reducible exact rc_lenL
  | with_reducible apply rc_lenS
  | with_reducible exact rc_abs
  | with_reducible exact rc_max
  | with_reducible exact rc_min
  | with_reducible exact rc_int
  | with_reducible exact rc_intB
  | with_reducible exact rv_inSign
  | with_reducible exact rv_inT
  | with_reducible exact rv_inL
  | with_reducible exact rv_ninL
  | with_reducible exact rv_ixT0
  | with_reducible exact rv_ixT1
  | with_reducible exact rv_ixT2
  | with_reducible exact rv_ixT3
  | with_reducible exact rv_ixL0
  | with_reducible exact rv_ixL1
  | with_reducible exact rv_ixL2))
section
variable {B : Bs} {L : List Addr} {ctx : Ct} {ms ms1 ms2 : Ms} {te ta tb ti : TE} {tl : TA} {r : Rp} {rs : List Rp} {K : PySem.W.Frag} {D : Ends} {σ : L2.St} {G H : Hp}
/-- xs[i] = e, xs a cell, i written -/
theorem st_setIx {a : Addr} {j k : Nat} (r : Rp) (h : EvM B L te ctx ms r ms) (ho : EvM B L ta ctx ms (rV (.ref a)) ms) (hi : EvM B L ti ctx ms (rI (k : Int)) ms) (hj : ms[j]? = some (a, .lst rs)) (hk : k < rs.length) (S : Sx B L ctx ms σ G H)
    (q : ∀ G' H', Same G G' → Sx B L ctx (ms.set j (a, .lst (rs.set k r))) σ G' H' → D.nx σ H') : tAsg te (gSub ta ti rSetL) D σ H :=
  h σ G H S _ fun v G1 H1 e1 S1 hv => ho σ G1 H1 S1 _ fun x G2 H2 e2 S2 ex => hi σ G2 H2 S2 _ fun y G3 H3 e3 S3 ey => by
    have c : CAt a G3 H3 (.lst rs) := S3.mem.at_ _ (List.mem_of_getElem? hj)
    cases c with
    | @lst _ xs ha hal =>
      have hl : k < xs.length := by rw [← hal.len]; exact hk
      refine ⟨a, xs, k, k, ex, ey, ha, ?_, q G3 _ (e1.trans (e2.trans e3)) (S3.put hj (.lst upd_same ?_))⟩
      · unfold ixN
        rw [if_pos (by omega), if_pos (by omega)]; simp
      · have set_al : ∀ {rs : List Rp} {xs : List V} {k : Nat}, Al rs xs G3 → Al (rs.set k r) (xs.set k v) G3 := fun {rs xs k} h => by
          induction h generalizing k with
          | nil => exact .nil
          | cons h t ih =>
            cases k with
            | zero => exact .cons (r.mono (e2.trans e3) hv) t
            | succ k => exact .cons h (ih (k := k))
        exact set_al hal
end
section
variable {P : Program} {w : World} {K : PySem.W.Frag} {mg : Str → Option Value} {base : Heap}
abbrev spRoll : Sp := spF (fun (x : Addr × Int) _ => 0 < x.2 ∧ x.2 ≤ 100000) (fun x => [rV (.ref x.1), rI x.2]) (fun x => [(x.1, .dice)]) (fun x => [(x.1, .dice)]) (fun x => rRoll x.2)
theorem sc_law_roll : FnScope ["_law_dice_here", "_law_total", "_law_found", "_law_one", "_law_two"] ["_law_dice_here", "_law_total"] (defScope s_law_roll) := ⟨rfl, rfl, rfl, by decide +kernel, rfl, by decide +kernel, by decide +kernel⟩
theorem cl_law_roll (T : Tx P w K mg base) : Cl P w K mg base 1 "_law_roll" spRoll := by
  obtain ⟨fd, F⟩ := T.def_ di_law_roll
  refine ⟨_, T.glo fi_glo_law_roll, F.kp, fnR_of F sc_law_roll (fun _ => rfl) (fun _ _ _ _ _ _ us hl => match us, hl with | [_, _], _ => rfl) fun cdv A outer s H0 vs Q E hr z L G hp k S => ?_⟩
  obtain ⟨a, n⟩ := z
  have h1 : 0 < n := hp.1
  have h2 : n ≤ 100000 := hp.2
  refine ⟨_, (pss_cons (ps_if (pt_cmpR op_gt (pe_ix (ix_listK (K := K)) (pv 0) pe_int (fun _ _ => rfl)) pe_int (nomark _)) (pss_cons (ps_set (i := 2) sc_law_roll.nd rfl (Or.inl rfl) (pe_op op_mod (pe_callTy (T := "int") call_int1 (by rfl) (T.free fi_free_int) (by decide +kernel) (pa_cons (pe_ix (ix_listK (K := K)) (pv 0) pe_int (fun _ _ => rfl)) pa_nil)) (pv 1)))
    (pss_cons (ps_asg (pe_op op_fdiv (pe_ix (ix_listK (K := K)) (pv 0) pe_int (fun _ _ => rfl)) (pv 1)) (pg_sub (pv 0) pe_int set_list))
    (pss_one (ps_ret (pv 2))))) pss_nil)
    (pss_cons (ps_asg (pe_op op_add (pe_ix (ix_listK (K := K)) (pv 0) pe_int (fun _ _ => rfl)) pe_int) (pg_sub (pv 0) pe_int set_list))
    (pss_cons (ps_set (i := 3) sc_law_roll.nd rfl (Or.inl rfl) (pe_op op_mod (pe_callTy (T := "int") call_int1 (by rfl) (T.free fi_free_int) (by decide +kernel) (pa_cons (pe_op op_add (pe_ix (ix_listK (K := K)) (pv 0) pe_int (fun _ _ => rfl)) (pe_op op_mul pe_int (pe_ix (ix_listK (K := K)) (pv 0) pe_int (fun _ _ => rfl)))) pa_nil)) pe_int))
    (pss_cons (ps_set (i := 4) sc_law_roll.nd rfl (Or.inl rfl) (pe_op op_add (pe_op op_mul (pe_op op_mod (pe_callTy (T := "int") call_int1 (by rfl) (T.free fi_free_int) (by decide +kernel) (pa_cons (pe_op op_mul (pv 3) (pv 3)) pa_nil)) pe_int) (pv 3)) (pe_op op_mul pe_int (pe_ix (ix_listK (K := K)) (pv 0) pe_int (fun _ _ => rfl)))))
    (pss_cons (ps_set (i := 4) sc_law_roll.nd rfl (Or.inl rfl) (pe_op op_mod (pe_callTy (T := "int") call_int1 (by rfl) (T.free fi_free_int) (by decide +kernel) (pa_cons (pv 4) pa_nil)) pe_int))
    (pss_one (ps_ret (pe_op op_mod (pe_callTy (T := "int") call_int1 (by rfl) (T.free fi_free_int) (by decide +kernel) (pa_cons (pe_op op_fdiv (pv 4) pe_int) pa_nil)) (pv 1))))))))), ?_⟩
  try dsimp only [L2.cxOf]
  obtain ⟨x, y, z, hx, hy, hz, S0⟩ := S.dice_open (j := 0) rfl
  refine st_ifP (decide (x > 0)) (et_val (ev_op (ev_op (ev_var rfl) ev_c (rv_ixM (j := 0) (k := 0) rfl rfl rfl)) ev_c rv_I0)) S0 fun G1 H1 e1 S1 => ⟨fun hb => ?_, fun hb => ?_⟩
  · refine st_setP (i := 2) (rI (x % n)) (ev_op (ev_cb (ea_cons (ev_op (ev_var rfl) ev_c (rv_ixM (j := 0) (k := 0) rfl rfl rfl)) ea_nil) rc_int) (ev_var rfl) (rv_Ic h1)) S1 fun σ2 G2 H2 e2 S2 => ?_
    dsimp only
    refine st_setIx (j := 0) (k := 0) (rI (x / n)) (ev_op (ev_op (ev_var rfl) ev_c (rv_ixM (j := 0) (k := 0) rfl rfl rfl)) (ev_var rfl) (rv_Ic ⟨h1, by omega⟩)) (ev_var rfl) ev_c rfl (by simp) S2 fun G3 H3 e3 S3 => ?_
    have S4 := S3.dice_close (j := 0) rfl (Int.ediv_nonneg hx (by omega)) hy hz
    dsimp only
    refine st_retP (rI (x % n)) (ev_var rfl) S4 fun v G' H' e S' hv => k _ _ G' H' S' v ⟨x % n, ⟨Int.emod_nonneg _ (by omega), Int.emod_lt_of_pos _ h1⟩, hv⟩
  · dsimp only [tNext]
    refine st_setIx (j := 0) (k := 2) (rI (z + 1)) (ev_op (ev_op (ev_var rfl) ev_c (rv_ixM (j := 0) (k := 2) rfl rfl rfl)) ev_c rv_I0) (ev_var rfl) ev_c rfl (by simp) S1 fun G2 H2 e2 S2 => ?_
    dsimp only
    have p1 : (0 : Int) < 2305843009213693951 := by decide
    have b1 : 0 ≤ (y + 1000289 * (z + 1)) % 2305843009213693951 := Int.emod_nonneg _ (by omega)
    have b2 : (y + 1000289 * (z + 1)) % 2305843009213693951 < 2305843009213693951 := Int.emod_lt_of_pos _ p1
    refine st_setP (i := 3) (rI ((y + 1000289 * (z + 1)) % 2305843009213693951)) (ev_op (ev_cb (ea_cons (ev_op (ev_op (ev_var rfl) ev_c (rv_ixM (j := 0) (k := 1) rfl rfl rfl)) (ev_op ev_c (ev_op (ev_var rfl) ev_c (rv_ixM (j := 0) (k := 2) rfl rfl rfl)) (rv_Ic (.inl ⟨by decide, by decide⟩))) rv_I0) ea_nil) rc_int) ev_c (rv_Ic p1)) S2 fun σ3 G3 H3 e3 S3 => ?_
    dsimp only
    generalize ho : (y + 1000289 * (z + 1)) % 2305843009213693951 = o at b1 b2 S3
    have p2 : (0 : Int) < 2305843009213693921 := by decide
    have c1 : 0 ≤ (o * o) % 2305843009213693921 := Int.emod_nonneg _ (by omega)
    have c2 : (o * o) % 2305843009213693921 < 2305843009213693921 := Int.emod_lt_of_pos _ p2
    refine st_setP (i := 4) (rI ((o * o) % 2305843009213693921 * o + 9311 * (z + 1))) (ev_op (ev_op (ev_op (ev_cb (ea_cons (ev_op (ev_var rfl) (ev_var rfl) (rv_Ic (.inl ⟨by omega, by omega⟩))) ea_nil) rc_int) ev_c (rv_Ic p2)) (ev_var rfl) (rv_Ic (.inl ⟨by omega, by omega⟩))) (ev_op ev_c (ev_op (ev_var rfl) ev_c (rv_ixM (j := 0) (k := 2) rfl rfl rfl)) (rv_Ic (.inl ⟨by decide, by decide⟩))) rv_I0) S3 fun σ4 G4 H4 e4 S4 => ?_
    dsimp only
    generalize ht : (o * o) % 2305843009213693921 * o + 9311 * (z + 1) = t at S4
    refine st_setP (i := 4) (rI (t % 2305843009213693907)) (ev_op (ev_cb (ea_cons (ev_var rfl) ea_nil) rc_int) ev_c (rv_Ic (by decide))) S4 fun σ5 G5 H5 e5 S5 => ?_
    dsimp only
    have S6 := S5.dice_close (j := 0) rfl hx hy (by omega)
    refine st_retP (rI (t % 2305843009213693907 / 4096 % n)) (ev_op (ev_cb (ea_cons (ev_op (ev_var rfl) ev_c (rv_Ic ⟨by decide, by decide⟩)) ea_nil) rc_int) (ev_var rfl) (rv_Ic h1)) S6 fun v G' H' e S' hv => k _ _ G' H' S' v ⟨_, ⟨Int.emod_nonneg _ (by omega), Int.emod_lt_of_pos _ h1⟩, hv⟩
/-- items drawn -/
theorem rv_ixRoll {B : Bs} {L : List Addr} {ctx : Ct} {ms : Ms} {rs : List Rp} : RvM B L (rIxL K) (rLst rs) (rRoll rs.length) ctx ms (rOne rs) ms := rv_exR fun k ⟨k0, k1⟩ => by
  have hk : k.toNat < rs.length := by omega
  have e : k = (k.toNat : Int) := by omega
  intro σ G H x y S hx hy Q q
  refine rv_ixL (k := k.toNat) e (List.getElem?_eq_getElem hk) σ G H x y S hx hy Q fun v G' H' e S' hv => q v G' H' e S' ⟨_, List.getElem_mem hk, hv⟩
abbrev spOneOf : Sp := spF (fun (x : Addr × List Rp) _ => x.2 ≠ [] ∧ x.2.length ≤ 1000) (fun x => [rV (.ref x.1), rLst x.2]) (fun x => [(x.1, .dice)]) (fun x => [(x.1, .dice)]) (fun x => rOne x.2)
theorem sc_law_one_of : FnScope ["_law_dice_here", "_law_items"] ["_law_dice_here", "_law_items"] (defScope s_law_one_of) := ⟨rfl, rfl, rfl, by decide +kernel, rfl, by decide +kernel, by decide +kernel⟩
theorem cl_law_one_of (T : Tx P w K mg base) : Cl P w K mg base 2 "_law_one_of" spOneOf := by
  obtain ⟨fd, F⟩ := T.def_ di_law_one_of
  refine ⟨_, T.glo fi_glo_law_one_of, F.kp, fnR_of F sc_law_one_of (fun _ => rfl) (fun _ _ _ _ _ _ us hl => match us, hl with | [_, _], _ => rfl) fun cdv A outer s H0 vs Q E hr z L G hp k S => ?_⟩
  have c_law_roll := cl_law_roll T
  obtain ⟨a, rs⟩ := z
  have h1 : rs ≠ [] := hp.1
  have h2 : rs.length ≤ 1000 := hp.2
  have h3 : 0 < rs.length := List.length_pos_iff.mpr h1
  refine ⟨_, (pss_one (ps_ret (pe_ix (ix_listK (K := K)) (pv 1) (pe_callR c_law_roll hr (by decide) (by rfl) (pa_cons (pv 0) (pa_cons (pe_callB (id := "len") (call_lenK (K := K)) (by rfl) (T.free fi_free_len) (by decide +kernel) (pa_cons (pv 1) pa_nil)) pa_nil))) (fun _ _ => rfl)))), ?_⟩
  try dsimp only [L2.cxOf]
  refine st_retP (rOne rs) ?_ S fun v G' H' e S' hv => k _ _ G' H' S' v hv
  exact ev_op (ev_var rfl) (ev_callD (a, (rs.length : Int)) 0 (ea_cons (ev_var rfl) (ea_cons (ev_cb (ea_cons (ev_var rfl) ea_nil) rc_lenL) ea_nil)) ⟨by show (0 : Int) < (rs.length : Int); omega, by show (rs.length : Int) ≤ 100000; omega⟩ rfl rfl rfl) rv_ixRoll
end
end K62
set_option maxHeartbeats 4000000
/-! K62Dk: parts drawn, rows mixed. -/
namespace K62
open PySem PySem.Spec PyProof.Rows L2
local macro_rules | `(tactic| walk_at "ev") => `(tactic| repeat' (first
  | ((with_reducible apply ev_var); exact rfl)
  | with_reducible exact ev_c
  | with_reducible exact ea_nil
  | with_reducible exact et_yes
  | with_reducible exact rv_I0
  | with_reducible exact eo_none
  | with_reducible apply eo_some
  | with_reducible apply ea_cons
  | with_reducible apply ev_op
  | (with_reducible apply ev_andV <;> try intro _)
  | (with_reducible apply ev_orV <;> try intro _)
  | with_reducible apply ev_notV
  | with_reducible apply ev_tup
  | with_reducible apply ev_lst
  | with_reducible apply ev_neg
  | with_reducible apply ev_cb
  | with_reducible apply et_B
  | with_reducible apply et_val
  | with_reducible apply et_not
  | (with_reducible apply et_and <;> try intro _)
  | (with_reducible apply et_or <;> try intro _)
  | with_reducible apply ev_call
  | with_reducible apply ev_fld
  | with_reducible exact cls_Cutter (by assumption)
  | with_reducible exact cls_Rule (by assumption)
  | with_reducible exact cls_Page (by assumption)
  | with_reducible exact cls_Inbox (by assumption)
  | with_reducible exact na_parts (by assumption)
  | with_reducible exact na_tables (by assumption)
  | with_reducible exact na_whole (by assumption)
  | with_reducible exact na_cutter (by assumption)
  | with_reducible exact na_sees (by assumption)
  | with_reducible exact na_rule (by assumption)
  | with_reducible exact na_pmarks (by assumption)
  | with_reducible exact na_letters (by assumption)
  | with_reducible exact na_bound (by assumption)
  | with_reducible exact na_shown (by assumption)
  | with_reducible exact na_moves (by assumption)
  | with_reducible exact na_near (by assumption)
  | with_reducible exact na_groups (by assumption)
  | with_reducible exact na_pages (by assumption)
  | with_reducible exact na_version (by assumption)
  | with_reducible exact na_marks (by assumption)
  | with_reducible exact isi_str (by assumption)
  | with_reducible exact isi_int (by assumption)
  | with_reducible exact isi_intbool (by assumption)
  | with_reducible exact isi_bool (by assumption)
  | with_reducible exact isi_tup (by assumption)
  | with_reducible exact isi_Cutter (by assumption)
  | with_reducible exact isi_Rule (by assumption)
  | with_reducible exact isi_Inbox (by assumption)
  | with_reducible exact rc_lenT
  | with_reducible exact rc_lenL
  | with_reducible apply rc_lenS
  | with_reducible exact rc_abs
  | with_reducible exact rc_max
  | with_reducible exact rc_min
  | with_reducible exact rc_int
  | with_reducible exact rc_intB
  | with_reducible exact rv_inSign
  | with_reducible exact rv_inT
  | with_reducible exact rv_inL
  | with_reducible exact rv_ninL
  | with_reducible exact rv_ixT0
  | with_reducible exact rv_ixT1
  | with_reducible exact rv_ixT2
  | with_reducible exact rv_ixT3
  | with_reducible exact rv_ixL0
  | with_reducible exact rv_ixL1
  | with_reducible exact rv_ixL2))
section
variable {B : Bs} {L : List Addr} {ctx : Ct} {ms ms1 ms2 : Ms} {te ta tb ti : TE} {tl : TA} {r : Rp} {rs : List Rp} {K : PySem.W.Frag} {D : Ends} {σ : L2.St} {G H : Hp}
/-- x = list(xs), a cell -/
theorem st_listM {i : Nat} (h : EvA B L tl ctx ms [rLst rs] ms) (S : Sx B L ctx ms σ G H) (k : ∀ d σ' G' H', Same G G' → Sx B L (ctx.set i (some (rV (.ref d)))) ((d, .lst rs) :: ms) σ' G' H' → D.nx σ' H') :
    tAsg (tCB (fun xs H Q => ∃ p ys, xs = [.ref p] ∧ (SqL K H p ys ∨ SqT K H p ys) ∧ ∀ l, H l = none → Q (.ref l) (upd H l (.lst ys))) tl) (gName i) D σ H :=
  h σ G H S _ fun vs G1 H1 e1 S1 hal => by
    obtain ⟨v, rfl, a, xs, ev, ha, hxs⟩ := al1 hal
    exact ⟨a, xs, by rw [ev], .inl (SqL.of (S1.ex.lst ha)), fun l hl => k l _ G1 _ e1 ((S1.newM hl (.lst upd_same hxs)).set rfl)⟩
/-- a, b = e, [] : the second a cell -/
theorem st_parM {i j : Nat} (h : EvM B L te ctx ms r ms) (S : Sx B L ctx ms σ G H) (k : ∀ d σ' G' H', Same G G' → Sx B L ((ctx.set i (some r)).set j (some (rV (.ref d)))) ((d, .lst []) :: ms) σ' G' H' → D.nx σ' H') :
    tPar i j (tCons te (tCons (tLst tNil) tNil)) D σ H :=
  h σ G H S _ fun v G1 H1 e1 S1 hv => ⟨by decide, fun p hp => ⟨v, .ref p, rfl, k p _ G1 _ e1 (((S1.newM hp (.lst upd_same .nil)).set hv).set rfl)⟩⟩
/-- return [..], a cell -/
theorem st_retM (h : EvA B L tl ctx ms rs ms) (hl : rs.length ≤ 100000) (S : Sx B L ctx ms σ G H) (k : ∀ d G' H', Same G G' → Sx B L ctx ((d, .lst rs) :: ms) σ G' H' → D.rt (.ref d) H') : tRet (tLst tl) D σ H := ev_lstM h hl S k
theorem ev_ex {α : Type} {P : α → Prop} {f : α → Rp} (x : α) (h : EvM B L te ctx ms (f x) ms1) (hp : P x) : EvM B L te ctx ms (rEx P f) ms1 := ev_imp h fun v G hv => ⟨x, hp, hv⟩
/-- a sum, the left drawn, the right drawn -/
theorem rv_exx {α β : Type} {P : α → Prop} {f : α → Rp} {R : β → Prop} {g : β → Rp} {rr : R2} (h : ∀ a, P a → ∀ b, R b → RvM B L rr (f a) (g b) ctx ms r ms1) : RvM B L rr (rEx P f) (rEx R g) ctx ms r ms1 := rv_exL fun a pa => rv_exR fun b pb => h a pa b pb
theorem st_ifE {tt : TT} {ts tw : TS} {Pb : Bool → Prop} (h : EvP B L tt ctx ms Pb ms1) (S : Sx B L ctx ms σ G H) (k : ∀ b G' H', Pb b → Same G G' → Sx B L ctx ms1 σ G' H' → (b = true → ts D σ H') ∧ (b = false → tw D σ H')) : tIfS tt ts tw D σ H := h σ G H S _ fun b G' H' pb e S' => by
  cases b with
  | true => exact (k true G' H' pb e S').1 rfl
  | false => exact (k false G' H' pb e S').2 rfl
/-- a drawn number against another -/
theorem rv_drawn {g : Int → Int → Bool} {P : Int → Prop} {j : Int} : RvM B L (rI0 fun i j => .bl (g i j)) (rEx P rI) (rI j) ctx ms (rEx (fun b : Bool => ∃ i, P i ∧ b = g i j) rB) ms := rv_exL fun i hi => fun σ G H x y S hx hy Q q => rv_I0 σ G H x y S hx hy Q fun v G' H' e S' hv => q v G' H' e S' ⟨g i j, ⟨i, hi, rfl⟩, hv⟩
/-- join of a drawn list -/
theorem ev_joinX {α : Type} {P : α → Prop} {f : α → List Str} {a : Str} (h : EvM B L te ctx ms (rS a) ms1) (hb : ∀ σ G H, Sx B L ctx ms1 σ G H → ∀ Q : VK, (∀ x v G' H', P x → Same G G' → Sx B L ctx ms2 σ G' H' → (rLst ((f x).map rS)).ok v G' → Q v H') → tb σ H Q) (hl : ∀ x, P x → ((f x).map (·.length)).sum + (f x).length * a.length ≤ 100000) :
    EvM B L (tM1 (fun x xs H Q => ∃ a p, ∃ ys : List Str, x = .str a ∧ xs = [.ref p] ∧ (SqL K H p (ys.map V.str) ∨ SqT K H p (ys.map V.str)) ∧ (ys.map (·.length)).sum + ys.length * a.length ≤ 16777216 ∧ Q (.str (Txt.join a ys)) H) te tb) ctx ms (rEx P fun x => rS (Txt.join a (f x))) ms2 := fun σ G H S Q k =>
  h σ G H S _ fun v G1 H1 e1 S1 ev => ⟨⟨a, ev⟩, hb σ G1 H1 S1 _ fun x y G2 H2 px e2 S2 ⟨p, xs, ey, hp, hal⟩ => by
    have ev : v = .str a := ev
    subst ev ey
    have e : xs = (f x).map V.str := al_rV hal
    subst e
    have := hl x px
    exact ⟨a, p, f x, rfl, rfl, .inl (SqL.of (S2.ex.lst hp)), by omega, k _ G2 H2 (e1.trans e2) S2 ⟨x, px, rfl⟩⟩⟩
end
section
variable {B : Bs} {L : List Addr} {ctx : Ct} {ms : Ms} {te : TE} {wi : TI} {g : TG} {σ : L2.St} {G H : Hp} {Q : VK}
/-- .. without a test -/
theorem ev_lcY {γ ι : Type} {P : γ → Prop} {rsf : γ → List Rp} {vs : List Nat} {mf : ι → Ms} (inv : γ → Nat → ι → List Rp → Prop) (a0 : ι) (hi : EvIx B L wi ctx ms P rsf (mf a0)) (hn : ∀ c, P c → (rsf c).length ≤ 100000) (h0 : ∀ c, P c → inv c 0 a0 [])
    (turn : ∀ (c : γ) (i : Nat) (r : Rp) (a : ι) (ys : List Rp), P c → (rsf c)[i]? = some r → inv c i a ys → ∃ ctx1 : Ct, GM g r (wipeC ctx vs) ctx1 vs ∧ ∀ (B : Bs) (σ : L2.St) (G H : Hp), Sx B L ctx1 (mf a) σ G H → ∀ (Qy : V → Hp → Prop),
      (∀ v e a' G' H', inv c (i + 1) a' (ys ++ [e]) → Same G G' → Sx B L ctx1 (mf a') σ G' H' → e.ok v G' → Qy v H') → te σ H Qy)
    (S : Sx B L ctx ms σ G H) (k : ∀ c a ys v G' H', P c → inv c (rsf c).length a ys → Same G G' → Sx B L ctx (mf a) σ G' H' → (rLst ys).ok v G' → Q v H') : tLc wi g tYes te vs σ H Q :=
  ev_lcN inv a0 hi hn h0 (fun c i r a ys pc hr hv => by
    obtain ⟨ctx1, h1, h2⟩ := turn c i r a ys pc hr hv
    refine ⟨ctx1, h1, fun B σ G H S Qy Qn ky kn => ?_⟩
    unfold tYes
    dsimp only
    rw [if_pos rfl]
    exact h2 B σ G H S Qy ky) S k
end
section
variable {P : Program} {w : World} {K : PySem.W.Frag} {mg : Str → Option Value} {base : Heap}
abbrev spDice : Sp := spE (β := Addr) (fun (x : List Int × Nat) _ => x.2 ≤ 1000) (fun x => [rLst (x.1.map rI), rN_ x.2]) (fun _ => []) (fun _ d => [(d, .dice)]) (fun _ d => rV (.ref d))
def bigM : Int := (10 ^ (60 : Int).toNat) ^ (10 : Int).toNat
theorem bigM_pos : 0 < bigM := by decide +kernel
theorem sc_law_dice : FnScope ["_law_script", "_law_at", "_law_cell", "_law_great", "_law_mixed_here"] ["_law_script", "_law_at"] (defScope s_law_dice) := ⟨rfl, rfl, rfl, by decide +kernel, rfl, by decide +kernel, by decide +kernel⟩
theorem cl_law_dice (T : Tx P w K mg base) : Cl P w K mg base 1 "_law_dice" spDice := by
  obtain ⟨fd, F⟩ := T.def_ di_law_dice
  refine ⟨_, T.glo fi_glo_law_dice, F.kp, fnE_of F sc_law_dice (fun _ => rfl) (fun _ _ _ _ _ _ us hl => match us, hl with | [_, _], _ => rfl) fun cdv A outer s H0 vs Q E hr z L G hp k S => ?_⟩
  obtain ⟨ns, n⟩ := z
  have h1 : n ≤ 1000 := hp
  refine ⟨_, (pss_cons (ps_set (i := 2) sc_law_dice.nd rfl (Or.inl rfl) (pe_ifExp (pt_cmpR op_lt (pv 1) (pe_callB (id := "len") (call_lenK (K := K)) (by rfl) (T.free fi_free_len) (by decide +kernel) (pa_cons (pv 0) pa_nil)) (nomark _)) (pe_ix (ix_listK (K := K)) (pv 0) (pv 1) (fun _ _ => rfl)) (pe_op op_add (pe_op op_mul pe_int (pv 1)) pe_int)))
    (pss_cons (ps_set (i := 3) sc_law_dice.nd rfl (Or.inl rfl) (pe_op op_mod (pe_callTy (T := "int") call_int1 (by rfl) (T.free fi_free_int) (by decide +kernel) (pa_cons (pe_callB (id := "abs") call_abs (by rfl) (T.free fi_free_abs) (by decide +kernel) (pa_cons (pv 2) pa_nil)) pa_nil)) (pe_op op_powB (pe_op op_powB pe_int pe_int) pe_int)))
    (pss_cons (ps_set (i := 4) sc_law_dice.nd rfl (Or.inl rfl) (pe_op op_add (pe_op op_add (pe_op op_add (pe_op op_mul (pe_op op_mod (pe_callTy (T := "int") call_int1 (by rfl) (T.free fi_free_int) (by decide +kernel) (pa_cons (pv 3) pa_nil)) pe_int) pe_int) (pe_op op_mul pe_int (pv 1))) (pe_op op_mul pe_int (pe_callTy (T := "int") call_int1 (by rfl) (T.free fi_free_int) (by decide +kernel) (pa_cons (pe_cmpR op_lt (pv 2) pe_int (nomark _)) pa_nil)))) pe_int))
    (pss_one (ps_ret (pe_lst (pa_cons (pe_callB (id := "max") (call_max2 rfl) (by rfl) (T.free fi_free_max) (by decide +kernel) (pa_cons pe_int (pa_cons (pe_op op_sub (pv 3) (pe_op op_powB pe_int pe_int)) pa_nil))) (pa_cons (pe_op op_mod (pe_callTy (T := "int") call_int1 (by rfl) (T.free fi_free_int) (by decide +kernel) (pa_cons (pv 4) pa_nil)) pe_int) (pa_cons pe_int pa_nil))))))))), ?_⟩
  try dsimp only [L2.cxOf]
  obtain ⟨c, hc⟩ : ∃ c : Int, c = if n < ns.length then ns.getD n 0 else 41 * (n : Int) + 7 := ⟨_, rfl⟩
  refine st_setP (i := 2) (rI c) ?_ S fun σ1 G1 H1 e1 S1 => ?_
  · refine ev_if (b := decide ((n : Int) < (ns.map rI).length)) (et_val (ev_op (ev_var rfl) (ev_cb (ea_cons (ev_var rfl) ea_nil) rc_lenL) rv_I0)) (fun hb => ?_) (fun hb => ?_)
    · have hn : n < ns.length := by have := of_decide_eq_true hb; rw [List.length_map] at this; omega
      rw [if_pos hn] at hc
      refine ev_op (ev_var rfl) (ev_var rfl) (rv_ixL (k := n) rfl ?_)
      rw [List.getElem?_map, List.getElem?_eq_getElem hn, hc]
      simp [List.getD, List.getElem?_eq_getElem hn]
    · have hn : ¬ n < ns.length := by have := of_decide_eq_false hb; rw [List.length_map] at this; omega
      rw [if_neg hn] at hc
      rw [hc]
      exact ev_op (ev_op ev_c (ev_var rfl) (rv_Ic (.inl ⟨by decide, by decide⟩))) ev_c rv_I0
  dsimp only
  clear hc
  have pw1 : CPowB 10 60 := .inl ⟨by decide, by decide, by decide⟩
  have pw2 : CPowB (10 ^ (60 : Int).toNat) 10 := .inr ⟨by decide +kernel, rfl⟩
  have pw3 : CPowB 10 18 := .inl ⟨by decide, by decide, by decide⟩
  obtain ⟨g, hg⟩ : ∃ g : Int, g = (if c < 0 then -c else c) % bigM := ⟨_, rfl⟩
  have g0 : 0 ≤ g := by rw [hg]; exact Int.emod_nonneg _ (by have := bigM_pos; omega)
  refine st_setP (i := 3) (rI g) ?_ S1 fun σ2 G2 H2 e2 S2 => ?_
  · rw [hg]
    exact ev_op (ev_cb (ea_cons (ev_cb (ea_cons (ev_var rfl) ea_nil) rc_abs) ea_nil) rc_int) (ev_op (ev_op ev_c ev_c (rv_Ic pw1)) ev_c (rv_Ic pw2)) (rv_Ic bigM_pos)
  clear hg
  dsimp only
  have a1 : 0 ≤ g % 2147483399 := Int.emod_nonneg _ (by omega)
  have a2 : g % 2147483399 < 2147483399 := Int.emod_lt_of_pos _ (by omega)
  obtain ⟨m, hm⟩ : ∃ m : Int, m = g % 2147483399 * 60013 + 4001 * (n : Int) + 29 * (if decide (c < 0) then 1 else 0) + 61 := ⟨_, rfl⟩
  refine st_setP (i := 4) (rI m) ?_ S2 fun σ3 G3 H3 e3 S3 => ?_
  · rw [hm]
    exact ev_op (ev_op (ev_op (ev_op (ev_op (ev_cb (ea_cons (ev_var rfl) ea_nil) rc_int) ev_c (rv_Ic (by decide))) ev_c (rv_Ic (.inl ⟨by omega, by omega⟩))) (ev_op ev_c (ev_var rfl) (rv_Ic (.inl ⟨by decide, by decide⟩))) rv_I0) (ev_op ev_c (ev_cb (ea_cons (ev_op (ev_var rfl) ev_c rv_I0) ea_nil) rc_intB) (rv_Ic (.inl ⟨by decide, by decide⟩))) rv_I0) ev_c rv_I0
  dsimp only
  refine st_retM (rs := [rI (if g - 10 ^ (18 : Int).toNat > 0 then g - 10 ^ (18 : Int).toNat else 0), rI (m % 2147483423), rI 0]) ?_ (by simp) S3 fun d G4 H4 e4 S4 => ?_
  · refine ea_cons (ev_cb (ea_cons ev_c (ea_cons (ev_op (ev_var rfl) (ev_op ev_c ev_c (rv_Ic pw3)) rv_I0) ea_nil)) rc_max) (ea_cons (ev_op (ev_cb (ea_cons (ev_var rfl) ea_nil) rc_int) ev_c (rv_Ic (by decide))) (ea_cons ev_c ea_nil))
  · have S5 := S4.dice_close (j := 0) rfl (by split <;> omega) (Int.emod_nonneg _ (by omega)) (by omega)
    exact k d _ _ G4 H4 S5 (.ref d) rfl
/-! ### signs, parts -/
theorem join_signs : ((blsTo 3).all fun l => decide (Txt.join "" (l.map fun b => (⟨#[sg b]⟩ : Str)) = sgs l)) = true := by decide +kernel
abbrev spSigns : Sp := spF (fun (x : Addr × Nat) _ => x.2 ≤ 3) (fun x => [rV (.ref x.1), rN_ x.2]) (fun x => [(x.1, .dice)]) (fun x => [(x.1, .dice)]) (fun x => rEx (fun l : List Bool => l.length ≤ x.2) fun l => rS (sgs l))
theorem sc_law_signs : FnScope ["_law_dice_here", "_law_much", "_law_turn"] ["_law_dice_here", "_law_much"] (defScope s_law_signs) := ⟨rfl, rfl, rfl, by decide +kernel, rfl, by decide +kernel, by decide +kernel⟩
theorem cl_law_signs (T : Tx P w K mg base) : Cl P w K mg base 3 "_law_signs" spSigns := by
  obtain ⟨fd, F⟩ := T.def_ di_law_signs
  refine ⟨_, T.glo fi_glo_law_signs, F.kp, fnR_of F sc_law_signs (fun _ => rfl) (fun _ _ _ _ _ _ us hl => match us, hl with | [_, _], _ => rfl) fun cdv A outer s H0 vs Q E hr z L G hp k S => ?_⟩
  have c_law_roll := cl_law_roll T
  have c_law_one_of := cl_law_one_of T
  obtain ⟨a, n⟩ := z
  have h1 : n ≤ 3 := hp
  refine ⟨_, (pss_one (ps_ret (pe_joinK (K := K) pe_str (pe_lc (own := [("_law_turn", 2)]) rfl sc_law_signs.nd (pi_range1 (by rfl) (T.free fi_free_range) (pa_cons (pe_callR c_law_roll hr (by decide) (by rfl) (pa_cons (pv 0) (pa_cons (pe_op op_add (pv 1) pe_int) pa_nil))) pa_nil)) (blkOk_by (own := [("_law_turn", 2)]) (N := ["_law_dice_here", "_law_much", "_law_turn"]) (sc := defScope s_law_signs) (by decide +kernel)) (fun _ _ _ _ _ => (pg_name (i := 2) sc_law_signs.nd rfl (Or.inl rfl) (Or.inr rfl))) (fun _ _ _ _ _ => pts_nil) (fun _ _ _ _ _ => (pe_callR c_law_one_of hr (by decide) (by rfl) (pa_cons (pv 0) (pa_cons (pe_lst (pa_cons pe_str (pa_cons pe_str (pa_cons pe_str pa_nil)))) pa_nil)))))))), ?_⟩
  try dsimp only [L2.cxOf]
  refine st_retP (rEx (fun l : List Bool => l.length ≤ n) fun l => rS (sgs l)) ?_ S fun v G' H' e S' hv => k _ _ G' H' S' v hv
  refine ev_imp (ev_joinX (P := fun l : List Bool => l.length ≤ n) (f := fun l => l.map fun b => (⟨#[sg b]⟩ : Str)) ev_c (fun σ G H S Q kk => ?_) (fun l hl => ?_)) (fun v G ⟨l, hl, hv⟩ => ⟨l, hl, ?_⟩)
  · refine ev_lcY (γ := Nat) (ι := Unit) (P := fun c => c ≤ n) (mf := fun _ => [(a, .dice)]) (fun c i _ ys => ∃ l : List Bool, l.length = i ∧ ys = (l.map fun b => (⟨#[sg b]⟩ : Str)).map rS) () (eix_rng (P := fun c => c ≤ n) (ea_cons ?_ ea_nil) (fun c hc => by omega)) (fun c hc => by rw [List.length_map, List.length_range]; omega) (fun c hc => ⟨[], rfl, rfl⟩) (fun c i r _ ys hc hr ⟨l, hl, hy⟩ => ⟨_, gm_name (by simp), fun B σ G H S Qy ky => ?_⟩) S fun c _ ys v G' H' hc ⟨l, hl, hy⟩ e S' hv => ?_
    · refine ev_imp (ev_callD (a, ((n : Int) + 1)) 0 (ea_cons (ev_var rfl) (ea_cons (ev_op (ev_var rfl) ev_c rv_I0) ea_nil)) ⟨by show (0 : Int) < (n : Int) + 1; omega, by show (n : Int) + 1 ≤ 100000; omega⟩ rfl rfl rfl) fun v G ⟨k, ⟨k0, k1⟩, hv⟩ => ⟨k.toNat, by omega, ?_⟩
      have : (k.toNat : Int) = k := by omega
      show v = V.int (k.toNat : Int)
      rw [this]
      exact hv
    · refine (ev_callD (a, [rS "+", rS "+", rS "-"]) 0 (ea_cons (ev_var rfl) (ea_cons (ev_lst (ea_cons ev_c (ea_cons ev_c (ea_cons ev_c ea_nil))) (by simp)) ea_nil)) ⟨by simp, by simp⟩ rfl rfl rfl) σ G H S _ fun v G1 H1 e1 S1 ⟨r1, hr1, hv⟩ => ?_
      have hb : ∃ b : Bool, r1 = rS ⟨#[sg b]⟩ := by
        simp only [List.mem_cons, List.not_mem_nil, or_false] at hr1
        rcases hr1 with rfl | rfl | rfl
        · exact ⟨true, rfl⟩
        · exact ⟨true, rfl⟩
        · exact ⟨false, rfl⟩
      obtain ⟨b, rfl⟩ := hb
      exact ky v (rS ⟨#[sg b]⟩) () G1 H1 ⟨l ++ [b], by rw [List.length_append, hl]; rfl, by rw [hy, List.map_append, List.map_append]; rfl⟩ e1 S1 hv
    · rw [List.length_map, List.length_range] at hl
      subst hy
      exact kk l v G' H' (by omega) e S' hv
  · have : ∀ l : List Bool, ((l.map fun b => (⟨#[sg b]⟩ : Str)).map (·.length)).sum = l.length := fun l => by
      induction l with
      | nil => rfl
      | cons b l ih => simp only [List.map_cons, List.sum_cons, ih, List.length_cons]; show 1 + l.length = _; omega
    rw [this]
    simp only [List.length_map]
    have z : ("" : Str).length = 0 := rfl
    rw [z, Nat.mul_zero]
    omega
  · have z := of_decide_eq_true (List.all_eq_true.mp join_signs l (mem_blsTo (by omega)))
    have hv : v = V.str (Txt.join "" (l.map fun b => (⟨#[sg b]⟩ : Str))) := hv
    rw [z] at hv
    exact hv
def common : List Str := ["all", "all", "..+", "..++", "+..", "+..+", "..+++", "..", "+..++", "..-+"]
theorem common_ok : (common.all fun s => pts.any fun p => decide (p.str = s)) = true := by decide +kernel
theorem pts_ok : ∀ {p : Pt}, p ∈ pts → p.ok := fun {p} h => by
  rcases List.mem_cons.mp h with z | z
  · subst z; trivial
  · obtain ⟨f, hf, h2⟩ := List.mem_flatMap.mp z
    obtain ⟨b, hb, e⟩ := List.mem_map.mp h2
    subst e
    have lenN : ∀ (n : Nat) (l : List Bool), l ∈ blsN n → l.length = n := fun n => by
      induction n with
      | zero => intro l h; rw [List.mem_singleton.mp h]; rfl
      | succ n ih =>
        intro l h
        obtain ⟨l', h1, h2⟩ := List.mem_flatMap.mp h
        have := ih l' h1
        simp only [List.mem_cons, List.not_mem_nil, or_false] at h2
        rcases h2 with rfl | rfl <;> simp [this]
    have lenT : ∀ (n : Nat) (l : List Bool), l ∈ blsTo n → l.length ≤ n := fun n => by
      induction n with
      | zero => intro l h; rw [lenN 0 l h]; omega
      | succ n ih =>
        intro l h
        rcases List.mem_append.mp h with z | z
        · have := ih l z; omega
        · have := lenN (n + 1) l z; omega
    exact ⟨lenT 2 f hf, lenT 3 b hb⟩
theorem common_pt {s : Str} (h : s ∈ common) : ∃ p : Pt, p.ok ∧ p.str = s := by
  obtain ⟨p, hp, e⟩ := List.any_eq_true.mp (List.all_eq_true.mp common_ok s h)
  exact ⟨p, pts_ok hp, of_decide_eq_true e⟩
theorem pat_str (f b : List Bool) : sgs f ++ (".." : Str) ++ sgs b = (Pt.pat f b).str := by
  have e : (".." : Str).cps = #[46, 46] := by decide +kernel
  show (⟨((f.map sg).toArray ++ (".." : Str).cps) ++ (b.map sg).toArray⟩ : Str) = ⟨(f.map sg ++ [46, 46] ++ b.map sg).toArray⟩
  rw [e]
  simp
abbrev rPt : Rp := rEx Pt.ok rP
abbrev spPart : Sp := spF (fun (x : Addr) _ => True) (fun x => [rV (.ref x)]) (fun x => [(x, .dice)]) (fun x => [(x, .dice)]) (fun _ => rPt)
theorem gap_len : (".." : Str).length = 2 := by decide +kernel
theorem one_common {v : V} {G : Hp} (h : (rOne (common.map rS)).ok v G) : rPt.ok v G := by
  obtain ⟨r, hr, hv⟩ := h
  obtain ⟨s, hs, e⟩ := List.mem_map.mp hr
  subst e
  obtain ⟨p, h1, h2⟩ := common_pt hs
  exact ⟨p, h1, by subst h2; exact hv⟩
theorem sc_law_part : FnScope ["_law_dice_here", "_law_common"] ["_law_dice_here"] (defScope s_law_part) := ⟨rfl, rfl, rfl, by decide +kernel, rfl, by decide +kernel, by decide +kernel⟩
theorem cl_law_part (T : Tx P w K mg base) : Cl P w K mg base 4 "_law_part" spPart := by
  obtain ⟨fd, F⟩ := T.def_ di_law_part
  refine ⟨_, T.glo fi_glo_law_part, F.kp, fnR_of F sc_law_part (fun _ => rfl) (fun _ _ _ _ _ _ us hl => match us, hl with | [_], _ => rfl) fun cdv A outer s H0 vs Q E hr a L G hp k S => ?_⟩
  have c_law_roll := cl_law_roll T
  have c_law_one_of := cl_law_one_of T
  have c_law_signs := cl_law_signs T
  refine ⟨_, (pss_cons (ps_set (i := 1) sc_law_part.nd rfl (Or.inl rfl) (pe_lst (pa_cons pe_str (pa_cons pe_str (pa_cons pe_str (pa_cons pe_str (pa_cons pe_str (pa_cons pe_str (pa_cons pe_str (pa_cons pe_str (pa_cons pe_str (pa_cons pe_str pa_nil))))))))))))
    (pss_cons (ps_if (pt_cmpR op_gt (pe_callR c_law_roll hr (by decide) (by rfl) (pa_cons (pv 0) (pa_cons pe_int pa_nil))) pe_int (nomark _)) (pss_one (ps_ret (pe_callR c_law_one_of hr (by decide) (by rfl) (pa_cons (pv 0) (pa_cons (pv 1) pa_nil))))) pss_nil)
    (pss_one (ps_ret (pe_op op_add_str (pe_op op_add_str (pe_callR c_law_signs hr (by decide) (by rfl) (pa_cons (pv 0) (pa_cons pe_int pa_nil))) pe_str) (pe_callR c_law_signs hr (by decide) (by rfl) (pa_cons (pv 0) (pa_cons pe_int pa_nil)))))))), ?_⟩
  try dsimp only [L2.cxOf]
  refine st_setP (i := 1) (rLst (common.map rS)) (ev_lst (ea_cons ev_c (ea_cons ev_c (ea_cons ev_c (ea_cons ev_c (ea_cons ev_c (ea_cons ev_c (ea_cons ev_c (ea_cons ev_c (ea_cons ev_c (ea_cons ev_c ea_nil)))))))))) (by simp [common])) S fun σ1 G1 H1 e1 S1 => ?_
  dsimp only
  refine st_ifE (ep_val (ev_op (ev_callD (a, (3 : Int)) 0 (ea_cons (ev_var rfl) (ea_cons ev_c ea_nil)) ⟨by show (0 : Int) < 3; decide, by show (3 : Int) ≤ 100000; decide⟩ rfl rfl rfl) ev_c rv_drawn)) S1 fun b G2 H2 hb e2 S2 => ⟨fun _ => ?_, fun _ => ?_⟩
  · refine st_retP rPt (ev_imp (ev_callD (a, common.map rS) 0 (ea_cons (ev_var rfl) (ea_cons (ev_var rfl) ea_nil)) ⟨by simp [common], by simp [common]⟩ rfl rfl rfl) fun v G h => one_common h) S2 fun v G' H' e S' hv => k _ _ G' H' S' v hv
  · dsimp only [tNext]
    refine st_retP rPt ?_ S2 fun v G' H' e S' hv => k _ _ G' H' S' v hv
    refine ev_op (r1 := rEx (fun f : List Bool => f.length ≤ 2) fun f => rS (sgs f ++ (".." : Str))) (ev_op (ev_callD (a, 2) 0 (ea_cons (ev_var rfl) (ea_cons ev_c ea_nil)) (by show 2 ≤ 3; omega) rfl rfl rfl) ev_c (rv_exL fun f hf => fun σ G H x y S hx hy Q q => rv_addS (a := sgs f) (b := "..") (by rw [sgs_len, gap_len]; have z : f.length ≤ 2 := hf; omega) σ G H x y S hx hy Q fun v G' H' e S' hv => q v G' H' e S' ⟨f, hf, hv⟩)) (ev_callD (a, 3) 0 (ea_cons (ev_var rfl) (ea_cons ev_c ea_nil)) (by show 3 ≤ 3; omega) rfl rfl rfl) (rv_exx fun f hf b hb => fun σ G H x y S hx hy Q q => rv_addS (a := sgs f ++ (".." : Str)) (b := sgs b) ?_ σ G H x y S hx hy Q fun v G' H' e S' hv => q v G' H' e S' ⟨.pat f b, ⟨hf, hb⟩, by rw [pat_str] at hv; exact hv⟩)
    have e1 : (sgs f ++ (".." : Str)).length = f.length + 2 := by
      have e : (".." : Str).cps = #[46, 46] := by decide +kernel
      show (((f.map sg).toArray ++ (".." : Str).cps)).size = _
      rw [e]; simp
    rw [e1, sgs_len]
    have hf : f.length ≤ 2 := hf
    have hb : b.length ≤ 3 := hb
    omega
abbrev spParts : Sp := spF (fun (x : Addr × Nat) _ => x.2 ≤ 2) (fun x => [rV (.ref x.1), rN_ x.2]) (fun x => [(x.1, .dice)]) (fun x => [(x.1, .dice)]) (fun x => rEx (fun ps : List Pt => (∀ p ∈ ps, p.ok) ∧ ps.length ≤ 2) fun ps => rLst (ps.map rP))
theorem sc_law_parts : FnScope ["_law_dice_here", "_law_much", "_law_turn"] ["_law_dice_here", "_law_much"] (defScope s_law_parts) := ⟨rfl, rfl, rfl, by decide +kernel, rfl, by decide +kernel, by decide +kernel⟩
theorem cl_law_parts (T : Tx P w K mg base) : Cl P w K mg base 5 "_law_parts" spParts := by
  obtain ⟨fd, F⟩ := T.def_ di_law_parts
  refine ⟨_, T.glo fi_glo_law_parts, F.kp, fnR_of F sc_law_parts (fun _ => rfl) (fun _ _ _ _ _ _ us hl => match us, hl with | [_, _], _ => rfl) fun cdv A outer s H0 vs Q E hr z L G hp k S => ?_⟩
  have c_law_one_of := cl_law_one_of T
  have c_law_part := cl_law_part T
  obtain ⟨a, n⟩ := z
  have h1 : n ≤ 2 := hp
  refine ⟨_, (pss_one (ps_ret (pe_lc (own := [("_law_turn", 2)]) rfl sc_law_parts.nd (pi_range1 (by rfl) (T.free fi_free_range) (pa_cons (pe_callR c_law_one_of hr (by decide) (by rfl) (pa_cons (pv 0) (pa_cons (pe_lst (pa_cons pe_int (pa_cons pe_int (pa_cons pe_int (pa_cons pe_int (pa_cons (pe_callB (id := "min") (call_min2 rfl) (by rfl) (T.free fi_free_min) (by decide +kernel) (pa_cons pe_int (pa_cons (pv 1) pa_nil))) (pa_cons (pv 1) pa_nil))))))) pa_nil))) pa_nil)) (blkOk_by (own := [("_law_turn", 2)]) (N := ["_law_dice_here", "_law_much", "_law_turn"]) (sc := defScope s_law_parts) (by decide +kernel)) (fun _ _ _ _ _ => (pg_name (i := 2) sc_law_parts.nd rfl (Or.inl rfl) (Or.inr rfl))) (fun _ _ _ _ _ => pts_nil) (fun _ _ _ _ _ => (pe_callR c_law_part hr (by decide) (by rfl) (pa_cons (pv 0) pa_nil)))))), ?_⟩
  try dsimp only [L2.cxOf]
  refine st_retP (rEx (fun ps : List Pt => (∀ p ∈ ps, p.ok) ∧ ps.length ≤ 2) fun ps => rLst (ps.map rP)) ?_ S fun v G' H' e S' hv => k _ _ G' H' S' v hv
  intro σ G H S Q kk
  refine ev_lcY (γ := Nat) (ι := Unit) (P := fun c => c ≤ 2) (mf := fun _ => [(a, .dice)]) (fun c i _ ys => ∃ ps : List Pt, ps.length = i ∧ (∀ p ∈ ps, p.ok) ∧ ys = ps.map rP) () (eix_rng (P := fun c => c ≤ 2) (ea_cons ?_ ea_nil) (fun c hc => by omega)) (fun c hc => by rw [List.length_map, List.length_range]; omega) (fun c hc => ⟨[], rfl, by simp, rfl⟩) (fun c i r _ ys hc hr ⟨ps, hl, hok, hy⟩ => ⟨_, gm_name (by simp), fun B σ G H S Qy ky => ?_⟩) S fun c _ ys v G' H' hc ⟨ps, hl, hok, hy⟩ e S' hv => ?_
  · refine ev_imp (ev_callD (a, [rI 0, rI 1, rI 1, rI 1, rI (if (n : Int) < 2 then (n : Int) else 2), rI (n : Int)]) 0 (ea_cons (ev_var rfl) (ea_cons (ev_lst (ea_cons ev_c (ea_cons ev_c (ea_cons ev_c (ea_cons ev_c (ea_cons (ev_cb (ea_cons ev_c (ea_cons (ev_var rfl) ea_nil)) rc_min) (ea_cons (ev_var rfl) ea_nil)))))) (by simp)) ea_nil)) ⟨by simp, by simp⟩ rfl rfl rfl) fun v G ⟨r, hr, hv⟩ => ?_
    simp only [List.mem_cons, List.not_mem_nil, or_false] at hr
    have nat : ∀ m : Nat, m ≤ 2 → v = V.int (m : Int) → (rEx (fun c => c ≤ 2) rN_).ok v G := fun m hm e => ⟨m, hm, e⟩
    rcases hr with rfl | rfl | rfl | rfl | rfl | rfl
    · exact nat 0 (by omega) hv
    · exact nat 1 (by omega) hv
    · exact nat 1 (by omega) hv
    · exact nat 1 (by omega) hv
    · by_cases h : (n : Int) < 2
      · rw [if_pos h] at hv; exact nat n (by omega) hv
      · rw [if_neg h] at hv; exact nat 2 (by omega) hv
    · exact nat n h1 hv
  · refine (ev_callD a 0 (ea_cons (ev_var rfl) ea_nil) trivial rfl rfl rfl) σ G H S _ fun v G1 H1 e1 S1 ⟨p, hp, hv⟩ => ?_
    refine ky v (rP p) () G1 H1 ⟨ps ++ [p], by rw [List.length_append, hl]; rfl, fun q hq => ?_, by rw [hy, List.map_append]; rfl⟩ e1 S1 hv
    rcases List.mem_append.mp hq with z | z
    · exact hok q z
    · rw [List.mem_singleton.mp z]; exact hp
  · rw [List.length_map, List.length_range] at hl
    subst hy
    exact kk v G' H' e S' ⟨ps, ⟨hok, by omega⟩, hv⟩
end
end K62
set_option maxHeartbeats 4000000
/-! K62Dl: what the law keeps of a row. -/
namespace K62
open PySem PySem.Spec PyProof.Rows L2
local macro_rules | `(tactic| walk_at "ev") => `(tactic| repeat' (first
  | ((with_reducible apply ev_var); exact rfl)
  | with_reducible exact ev_c
  | with_reducible exact ea_nil
  | with_reducible exact et_yes
  | with_reducible exact rv_I0
  | with_reducible exact eo_none
  | with_reducible apply eo_some
  | with_reducible apply ea_cons
  | with_reducible apply ev_op
  | (with_reducible apply ev_andV <;> try intro _)
  | (with_reducible apply ev_orV <;> try intro _)
  | with_reducible apply ev_notV
  | with_reducible apply ev_tup
  | with_reducible apply ev_lst
  | with_reducible apply ev_neg
  | with_reducible apply ev_cb
  | with_reducible apply et_B
  | with_reducible apply et_val
  | with_reducible apply et_not
  | (with_reducible apply et_and <;> try intro _)
  | (with_reducible apply et_or <;> try intro _)
  | with_reducible apply ev_call
  | with_reducible apply ev_fld
  | with_reducible exact cls_Cutter (by assumption)
  | with_reducible exact cls_Rule (by assumption)
  | with_reducible exact cls_Page (by assumption)
  | with_reducible exact cls_Inbox (by assumption)
  | with_reducible exact na_parts (by assumption)
  | with_reducible exact na_tables (by assumption)
  | with_reducible exact na_whole (by assumption)
  | with_reducible exact na_cutter (by assumption)
  | with_reducible exact na_sees (by assumption)
  | with_reducible exact na_rule (by assumption)
  | with_reducible exact na_pmarks (by assumption)
  | with_reducible exact na_letters (by assumption)
  | with_reducible exact na_bound (by assumption)
  | with_reducible exact na_shown (by assumption)
  | with_reducible exact na_moves (by assumption)
  | with_reducible exact na_near (by assumption)
  | with_reducible exact na_groups (by assumption)
  | with_reducible exact na_pages (by assumption)
  | with_reducible exact na_version (by assumption)
  | with_reducible exact na_marks (by assumption)
  | with_reducible exact isi_str (by assumption)
  | with_reducible exact isi_int (by assumption)
  | with_reducible exact isi_intbool (by assumption)
  | with_reducible exact isi_bool (by assumption)
  | with_reducible exact isi_tup (by assumption)
  | with_reducible exact isi_Cutter (by assumption)
  | with_reducible exact isi_Rule (by assumption)
  | with_reducible exact isi_Inbox (by assumption)
  | with_reducible exact rc_lenT
  | with_reducible exact rc_lenL
  | with_reducible apply rc_lenS
  | with_reducible exact rc_abs
  | with_reducible exact rc_max
  | with_reducible exact rc_min
  | with_reducible exact rc_int
  | with_reducible exact rc_intB
  | with_reducible exact rv_inSign
  | with_reducible exact rv_inT
  | with_reducible exact rv_inL
  | with_reducible exact rv_ninL
  | with_reducible exact rv_ixT0
  | with_reducible exact rv_ixT1
  | with_reducible exact rv_ixT2
  | with_reducible exact rv_ixT3
  | with_reducible exact rv_ixL0
  | with_reducible exact rv_ixL1
  | with_reducible exact rv_ixL2))
section
variable {B : Bs} {L : List Addr} {ctx : Ct} {ms ms1 ms2 : Ms} {te ta tb ti : TE} {tl : TA} {r : Rp} {rs : List Rp} {K : PySem.W.Frag} {D : Ends} {σ : L2.St} {G H : Hp}
/-- tuple(xs), xs a cell -/
theorem ev_tupOfM {a : Addr} {j : Nat} (h : EvM B L te ctx ms (rV (.ref a)) ms) (hj : ms[j]? = some (a, .lst rs)) : EvM B L (tThen te (kTup K)) ctx ms (rTup rs) ms := fun σ G H S Q k =>
  h σ G H S _ fun v G1 H1 e1 S1 ev => by
    have c : CAt a G1 H1 (.lst rs) := S1.mem.at_ _ (List.mem_of_getElem? hj)
    cases c with
    | @lst _ xs ha hal =>
      refine .inl ⟨a, xs, ev, SqL.of ha, fun p hp => ?_⟩
      obtain ⟨e2, S2⟩ := S1.new (o := .tup xs) hp
      exact k _ _ _ (e1.trans e2) S2 ⟨p, xs, rfl, upd_same, hal.mono e2⟩
/-- cells forgotten -/
theorem Sx.forget {p : Addr × Cell} (S : Sx B L ctx (p :: ms) σ G H) : Sx B L ctx ms σ G H := S.cells (fun q hq => List.mem_cons_of_mem _ hq) (List.nodup_cons.mp S.mem.nd).2
end
section
variable {P : Program} {w : World} {K : PySem.W.Frag} {mg : Str → Option Value} {base : Heap}
theorem pickI_succ {p : Pt} {n i : Nat} : ((List.range (i + 1)).filter fun i => p.keep n i) = ((List.range i).filter fun i => p.keep n i) ++ if p.keep n i then [i] else [] := by
  rw [List.range_succ, List.filter_append]
  congr 1
  by_cases h : p.keep n i <;> simp [h]
theorem pick_getI (p : Pt) (xs : List Int) : (pickI p xs.length).map (fun i => xs.getD i 0) = pick p xs := by
  unfold pick
  have : ∀ l : List Nat, (∀ i ∈ l, i < xs.length) → l.map (fun i => xs.getD i 0) = l.filterMap fun i => xs[i]? := fun l => by
    induction l with
    | nil => intro _; rfl
    | cons i l ih =>
      intro h
      rw [List.map_cons, ih fun j hj => h j (List.mem_cons_of_mem _ hj), List.filterMap_cons]
      have this := List.getElem?_eq_getElem (h i List.mem_cons_self)
      rw [this]
      simp [List.getD, this]
  exact this _ fun i hi => List.mem_range.mp (List.mem_filter.mp hi).1
theorem sgs_at {f : List Bool} {k : Nat} (hk : k < f.length) : (sgs f).cps.toList[k]? = some (sg (f.getD k false)) := by
  simp [sgs, List.getD, List.getElem?_eq_getElem hk]
structure KpX where
  ps : List Pt
  row : List Int
  l : Bool
abbrev spKept : Sp := spP (fun (x : KpX) _ => (∀ p ∈ x.ps, p.ok) ∧ x.ps.length ≤ 4 ∧ x.row.length ≤ 100) (fun x => [rLst (x.ps.map rP), if x.l then rLst (x.row.map rI) else rInts x.row]) (fun x => rInts (kept x.ps x.row))
theorem sc_law_kept : FnScope ["_law_parts_here", "_law_row", "_law_part_here", "_law_front", "_law_back", "_law_size", "_law_found", "_law_at", "_law_ahead"] ["_law_parts_here", "_law_row"] (defScope s_law_kept) := ⟨rfl, rfl, rfl, by decide +kernel, rfl, by decide +kernel, by decide +kernel⟩
theorem cl_law_kept (T : Tx P w K mg base) : Cl P w K mg base 1 "_law_kept" spKept := by
  obtain ⟨fd, F⟩ := T.def_ di_law_kept
  refine ⟨_, T.glo fi_glo_law_kept, F.kp, fnR_of F sc_law_kept (fun _ => rfl) (fun _ _ _ _ _ _ us hl => match us, hl with | [_, _], _ => rfl) fun cdv A outer s H0 vs Q E hr z L G hp k S => ?_⟩
  obtain ⟨ps, row, lb⟩ := z
  have hok : ∀ p ∈ ps, p.ok := hp.1
  have hps : ps.length ≤ 4 := hp.2.1
  have hrow : row.length ≤ 100 := hp.2.2
  refine ⟨_, (pss_cons (ps_set (i := 1) sc_law_kept.nd rfl (Or.inl rfl) (pe_tupleK (K := K) (by rfl) (T.free fi_free_tuple) (pv 1)))
    (pss_cons (ps_for PassesOwn.never rfl (pi_listK (K := K) (pv 0)) (pg_name (i := 2) sc_law_kept.nd rfl (Or.inl rfl))
      (pss_one (ps_if (pt_cmpR op_ne (pv 2) pe_str (nomark _)) (pss_cons (ps_asg (pe_split (pv 2) pe_str) (pg_unlK (K := K) (n := 2) rfl (pgs_cons (pg_name (i := 3) sc_law_kept.nd rfl (Or.inl rfl)) (pgs_cons (pg_name (i := 4) sc_law_kept.nd rfl (Or.inl rfl)) pgs_nil))))
    (pss_cons (ps_par (i := 5) (j := 6) rfl sc_law_kept.nd rfl rfl (by decide) rfl rfl (pa_cons (pe_callB (id := "len") (call_lenK (K := K)) (by rfl) (T.free fi_free_len) (by decide +kernel) (pa_cons (pv 1) pa_nil)) (pa_cons (pe_lst pa_nil) pa_nil)) rfl)
    (pss_cons (ps_for PassesOwn.never rfl (pi_range1 (by rfl) (T.free fi_free_range) (pa_cons (pv 5) pa_nil)) (pg_name (i := 7) sc_law_kept.nd rfl (Or.inl rfl))
      (pss_cons (ps_set (i := 8) sc_law_kept.nd rfl (Or.inl rfl) (pe_and (pe_cmpR op_lt (pv 7) (pe_callB (id := "len") (call_lenK (K := K)) (by rfl) (T.free fi_free_len) (by decide +kernel) (pa_cons (pv 3) pa_nil)) (nomark _)) (pe_one (pe_cmpR op_eq (pe_ix ix_str (pv 3) (pv 7) (fun _ _ => rfl)) pe_str (nomark _)))))
    (pss_one (ps_if (PW.pt (pw_or (pt_val (pv 8)) (pw_or1 (PW.pt (pw_and (pt_cmpR op_le (pe_op op_sub (pv 5) (pv 7)) (pe_callB (id := "len") (call_lenK (K := K)) (by rfl) (T.free fi_free_len) (by decide +kernel) (pa_cons (pv 4) pa_nil)) (nomark _)) (pw_and1 (pt_cmpR op_eq (pe_ix ix_str (pv 4) (pe_op op_add (pe_op op_sub (pe_callB (id := "len") (call_lenK (K := K)) (by rfl) (T.free fi_free_len) (by decide +kernel) (pa_cons (pv 4) pa_nil)) (pv 5)) (pv 7)) (fun _ _ => rfl)) pe_str (nomark _)))))))) (pss_one (ps_expr (pe_bmK (K := K) PySem.F.plainAttrs_list PySem.F.slot_list_append PySem.F.type_list_append mt_append (pv 6) (pa_cons (pe_ix (ix_tupK (K := K)) (pv 1) (pv 7) (fun _ _ => rfl)) pa_nil)))) pss_nil))))
    (pss_one (ps_set (i := 1) sc_law_kept.nd rfl (Or.inl rfl) (pe_tupleK (K := K) (by rfl) (T.free fi_free_tuple) (pv 6))))))) pss_nil)))
    (pss_one (ps_ret (pv 1))))), ?_⟩
  try dsimp only [L2.cxOf]
  refine st_setP (i := 1) (rInts row) ?_ S fun σ1 G1 H1 e1 S1 => ?_
  · cases lb with
    | true => exact ev_tupOfL (ev_var rfl)
    | false => exact ev_tupOfT (ev_var rfl)
  dsimp only
  refine st_for (ι := Nat) (ei_list (ev_var rfl)) S1 (fun i a => a = i ∧ i ≤ ps.length) (fun i => [some (rLst (ps.map rP)), some (rInts (kept (ps.take i) row)), none, none, none, none, none, none, none]) (fun _ => []) 0 ⟨rfl, Nat.zero_le _⟩ (fun B σ G H S => S) (fun B1 G2 H2 i r a σ3 G3 H3 e2 hr ha e3 hl un sm S3 => ?_) (fun a σ3 G3 H3 ha e2 S3 => ?_)
  · obtain ⟨rfl, hi⟩ := ha
    rw [List.getElem?_map] at hr
    cases hq : ps[a]? with
    | none => rw [hq] at hr; cases hr
    | some p =>
      rw [hq] at hr
      cases hr
      have pok : p.ok := hok p (List.mem_of_getElem? hq)
      have hlt : a < ps.length := (List.getElem?_eq_some_iff.mp hq).1
      have hk : (kept (ps.take a) row).length ≤ 100 := by exact Nat.le_trans (kept_le _ _) hrow
      have hsnoc : kept (ps.take (a + 1)) row = pick p (kept (ps.take a) row) := by
        rw [List.take_add_one, hq]
        exact kept_snoc _ _ _
      refine ⟨_, [2], gm_name (by simp), fun σ4 G4 H4 e4 S4 => ?_⟩
      cases p with
      | all =>
        refine st_ifFP (et_b (et_val (ev_op (ev_var rfl) ev_c (rv_ne rfl))) (by show (!decide (V.str Pt.all.str = V.str "all")) = false; decide +kernel)) S4 fun G5 H5 e5 S5 => ?_
        refine ⟨a + 1, G5, ⟨rfl, hlt⟩, ?_⟩
        rw [pick_all] at hsnoc
        rw [hsnoc]
        exact S5.weak (by repeat' constructor)
      | pat f b =>
        have hf : f.length ≤ 2 := pok.1
        have hb : b.length ≤ 3 := pok.2
        refine st_ifT (et_b (et_val (ev_op (ev_var rfl) ev_c (rv_ne rfl))) (by show (!decide (V.str (Pt.pat f b).str = V.str "all")) = true; rw [pat_ne pok]; rfl)) S4 fun G5 H5 e5 S5 => ?_
        refine st_unp (ms1 := []) (ev_is (ev_split (ev_var rfl) ev_c (by decide +kernel) (Nat.le_trans (split_pat pok).2.2 (by decide))) (congrArg rLst (split_al pok))) (gm_lst2 (vs := [3, 4]) (by simp) (by simp)) S5 fun σ6 G6 H6 e6 S6 => ?_
        dsimp only
        refine st_parM (r := rN_ (kept (ps.take a) row).length) (ev_is (ev_cb (ea_cons (ev_var rfl) ea_nil) rc_lenT) (by rw [List.length_map])) S6 fun d σ7 G7 H7 e7 S7 => ?_
        dsimp only
        have hnn : (((kept (ps.take a) row).length : Nat) : Int).toNat = (kept (ps.take a) row).length := by omega
        refine st_for (ι := Nat) (ei_rng1 (ea_cons (ev_var rfl) ea_nil) hnn (by omega) (by omega)) S7 (fun i a' => a' = i ∧ i ≤ (kept (ps.take a) row).length) (fun _ => [some (rLst (ps.map rP)), some (rInts (kept (ps.take a) row)), none, some (rS (sgs f)), some (rS (sgs b)), some (rN_ (kept (ps.take a) row).length), some (rV (.ref d)), none, none]) (fun i => [(d, .lst (((List.range i).filter fun i => (Pt.pat f b).keep (kept (ps.take a) row).length i).map fun i => rI ((kept (ps.take a) row).getD i 0)))]) 0 ⟨rfl, Nat.zero_le _⟩ (fun B σ G H S => S.weak (by repeat' constructor)) (fun B2 G8 H8 i r a2 σ9 G9 H9 e8 hr ha2 e9 hl2 un2 sm2 S9 => ?_) (fun a2 σ9 G9 H9 ha2 e8 S9 => ?_)
        · obtain ⟨rfl, hi2⟩ := ha2
          rw [List.getElem?_map] at hr
          rcases Nat.lt_or_ge a2 (kept (ps.take a) row).length with hlt2 | hge2
          · rw [List.getElem?_range hlt2] at hr
            cases hr
            refine ⟨_, [7], gm_name (by simp), fun σ10 G10 H10 e10 S10 => ?_⟩
            refine st_setP (i := 8) (rB (decide (a2 < f.length) && f.getD a2 false)) ?_ S10 fun σ11 G11 H11 e11 S11 => ?_
            · refine ev_andV (ev_b (ev_op (ev_var rfl) (ev_cb (ea_cons (ev_var rfl) ea_nil) (rc_lenS (by rw [sgs_len]; omega))) rv_I0) (by rw [sgs_len]; exact decide_eq_decide.mpr (by omega))) fun hlt3 => ?_
              have h3 : a2 < f.length := of_decide_eq_true hlt3
              exact ev_b (ev_op (ev_op (ev_var rfl) (ev_var rfl) (rv_ixS (k := a2) rfl (by rw [sgs_len]; omega) (sgs_at h3))) ev_c (rv_eq rfl)) (sg_plus _)
            dsimp only
            refine st_ifP ((Pt.pat f b).keep (kept (ps.take a) row).length a2) (et_or (et_B (ev_var rfl)) fun _ => et_and (et_val (ev_b (c := decide ((kept (ps.take a) row).length ≤ a2 + b.length)) (ev_op (ev_op (ev_var rfl) (ev_var rfl) rv_I0) (ev_cb (ea_cons (ev_var rfl) ea_nil) (rc_lenS (by rw [sgs_len]; omega))) rv_I0) (by rw [sgs_len]; exact decide_eq_decide.mpr (by omega)))) fun hle => ?_) S11 fun G12 H12 e12 S12 => ⟨fun hb => ?_, fun hb => ?_⟩
            · have h4 : (kept (ps.take a) row).length ≤ a2 + b.length := of_decide_eq_true hle
              have h5 : b.length + a2 - (kept (ps.take a) row).length < b.length := by omega
              refine et_val (ev_b (ev_op (ev_op (ev_var rfl) (ev_op (ev_op (ev_cb (ea_cons (ev_var rfl) ea_nil) (rc_lenS (by rw [sgs_len]; omega))) (ev_var rfl) rv_I0) (ev_var rfl) rv_I0) (rv_ixS (k := b.length + a2 - (kept (ps.take a) row).length) (by rw [sgs_len]; omega) (by rw [sgs_len]; omega) (sgs_at h5))) ev_c (rv_eq rfl)) (sg_plus _))
            · refine st_drop (ev_append (j := 0) (r := rI ((kept (ps.take a) row).getD a2 0)) (ev_var rfl) (ea_cons (ev_op (ev_var rfl) (ev_var rfl) (rv_ixT (k := a2) rfl ?_)) ea_nil) ⟨0, _, rfl⟩ rfl ?_) S12 fun G13 H13 e13 S13 => ?_
              · rw [List.getElem?_map, List.getElem?_eq_getElem hlt2]
                simp [List.getD, List.getElem?_eq_getElem hlt2]
              · rw [List.length_map]
                have := List.length_filter_le (fun i => (Pt.pat f b).keep (kept (ps.take a) row).length i) (List.range a2)
                rw [List.length_range] at this
                omega
              · refine ⟨a2 + 1, G13, ⟨rfl, hlt2⟩, ?_⟩
                rw [pickI_succ, hb, if_pos rfl, List.map_append]
                exact S13.weak (by repeat' constructor)
            · refine ⟨a2 + 1, G12, ⟨rfl, hlt2⟩, ?_⟩
              rw [pickI_succ, hb, if_neg (by simp), List.append_nil]
              exact S12.weak (by repeat' constructor)
          · rw [List.getElem?_eq_none (by rw [List.length_range]; exact hge2)] at hr; cases hr
        · obtain ⟨rfl, _⟩ := ha2
          rw [List.length_map, List.length_range] at S9
          dsimp only
          refine st_setP (i := 1) (rInts (pick (.pat f b) (kept (ps.take a) row))) ?_ S9 fun σ10 G10 H10 e10 S10 => ?_
          · refine ev_is (ev_tupOfM (j := 0) (ev_var rfl) rfl) ?_
            rw [map_map_rI, ← pick_getI]
            rfl
          · refine ⟨a + 1, G10, ⟨rfl, hlt⟩, ?_⟩
            rw [hsnoc]
            exact S10.forget.weak (by repeat' constructor)
  · obtain ⟨rfl, _⟩ := ha
    rw [List.length_map, List.take_length] at S3
    refine st_retP (rInts (kept ps row)) (ev_var rfl) S3 fun v G' H' e S' hv => k _ _ G' H' S' v hv
end
end K62
set_option maxHeartbeats 4000000
/-! K62Dm: same rows, rules, neighbours. -/
namespace K62
open PySem PySem.Spec PyProof.Rows L2
local macro_rules | `(tactic| walk_at "ev") => `(tactic| repeat' (first
  | ((with_reducible apply ev_var); exact rfl)
  | with_reducible exact ev_c
  | with_reducible exact ea_nil
  | with_reducible exact et_yes
  | with_reducible exact rv_I0
  | with_reducible exact eo_none
  | with_reducible apply eo_some
  | with_reducible apply ea_cons
  | with_reducible apply ev_op
  | (with_reducible apply ev_andV <;> try intro _)
  | (with_reducible apply ev_orV <;> try intro _)
  | with_reducible apply ev_notV
  | with_reducible apply ev_tup
  | with_reducible apply ev_lst
  | with_reducible apply ev_neg
  | with_reducible apply ev_cb
  | with_reducible apply et_B
  | with_reducible apply et_val
  | with_reducible apply et_not
  | (with_reducible apply et_and <;> try intro _)
  | (with_reducible apply et_or <;> try intro _)
  | with_reducible apply ev_call
  | with_reducible apply ev_fld
  | with_reducible exact cls_Cutter (by assumption)
  | with_reducible exact cls_Rule (by assumption)
  | with_reducible exact cls_Page (by assumption)
  | with_reducible exact cls_Inbox (by assumption)
  | with_reducible exact na_parts (by assumption)
  | with_reducible exact na_tables (by assumption)
  | with_reducible exact na_whole (by assumption)
  | with_reducible exact na_cutter (by assumption)
  | with_reducible exact na_sees (by assumption)
  | with_reducible exact na_rule (by assumption)
  | with_reducible exact na_pmarks (by assumption)
  | with_reducible exact na_letters (by assumption)
  | with_reducible exact na_bound (by assumption)
  | with_reducible exact na_shown (by assumption)
  | with_reducible exact na_moves (by assumption)
  | with_reducible exact na_near (by assumption)
  | with_reducible exact na_groups (by assumption)
  | with_reducible exact na_pages (by assumption)
  | with_reducible exact na_version (by assumption)
  | with_reducible exact na_marks (by assumption)
  | with_reducible exact isi_str (by assumption)
  | with_reducible exact isi_int (by assumption)
  | with_reducible exact isi_intbool (by assumption)
  | with_reducible exact isi_bool (by assumption)
  | with_reducible exact isi_tup (by assumption)
  | with_reducible exact isi_Cutter (by assumption)
  | with_reducible exact isi_Rule (by assumption)
  | with_reducible exact isi_Inbox (by assumption)
  | with_reducible exact rc_lenT
  | with_reducible exact rc_lenL
  | with_reducible apply rc_lenS
  | with_reducible exact rc_abs
  | with_reducible exact rc_max
  | with_reducible exact rc_min
  | with_reducible exact rc_int
  | with_reducible exact rc_intB
  | with_reducible exact rv_inSign
  | with_reducible exact rv_inT
  | with_reducible exact rv_inL
  | with_reducible exact rv_ninL
  | with_reducible exact rv_ixT0
  | with_reducible exact rv_ixT1
  | with_reducible exact rv_ixT2
  | with_reducible exact rv_ixT3
  | with_reducible exact rv_ixL0
  | with_reducible exact rv_ixL1
  | with_reducible exact rv_ixL2))
section
variable {B : Bs} {L : List Addr} {ctx : Ct} {ms ms1 ms2 : Ms} {te ta tb ti : TE} {tl tk : TA} {r : Rp} {rs : List Rp} {K : PySem.W.Frag} {D : Ends} {σ : L2.St} {G H : Hp} {α : Type} {pre : α → List Addr → Prop} {ar : α → List Rp} {C : Addr} {E : XK}
theorem ev_mkK {x : α} {n m : Nat} {as bs : List Rp} {fo : α → List (Str × Rp)} (h : EvA B L tl ctx ms as ms1) (h2 : EvA B L tk ctx ms1 bs ms2) (hx : ar x = as ++ bs) (hn : as.length = n) (hm : bs.length = m) (hp : pre x L) : EvM B L (tMakeK C n m (spI pre C ar fo) (fun vs zs => vs ++ zs) E tl tk) ctx ms (rIns C (fo x)) ms2 := fun σ G H S Q k =>
  h σ G H S _ fun vs G1 H1 e1 S1 hal => h2 σ G1 H1 S1 _ fun zs G2 H2 e2 S2 hbl => ⟨by rw [← hal.len]; exact hn, by rw [← hbl.len]; exact hm, make_use S2 (by rw [hx]; exact (hal.mono e2).app hbl) hp fun v G3 H3 e3 S3 hv => k v G3 H3 (e1.trans (e2.trans e3)) S3 hv⟩
/-- sorted() of a dict -/
theorem rc_sortedD {f : Int → Rp} {ns : List Int} (h : ns.length < 64) : RcM B L (fun xs H Q => ∃ (a : Addr) (kvs : List (Key × V)) (ks : List Int), xs = [.ref a] ∧ Rd H a (.dK kvs) ∧ kvs.map (·.1) = ks.map Sum.inl ∧ ks.length < 64 ∧
    ∀ (ys : List Int) (p : Addr), ys.Perm ks → ys.Pairwise (· ≤ ·) → H p = none → Q (.ref p) (upd H p (.lst (ys.map V.int)))) [rDct (ns.map fun m => (m, f m))] ctx ms (rSorted_ ns) ms := fun σ G H xs S hal Q k => by
  obtain ⟨v, rfl, a, kvs, e, ha, hk⟩ := al1 hal
  subst e
  have keys : ∀ {l : List Int} {kvs : List (Key × V)}, AlK (l.map fun m => (m, f m)) kvs G → kvs.map (·.1) = l.map Sum.inl := fun {l} => by
    induction l with
    | nil => intro kvs h; cases h; rfl
    | cons m l ih =>
      intro kvs h
      rw [List.map_cons] at h
      cases h with
      | cons p t => rw [List.map_cons, List.map_cons, ih t]; exact congrArg (· :: _) p.1
  refine ⟨a, kvs, ns, rfl, S.ex.dct ha, keys hk, h, fun ns' p hp ho hn => ?_⟩
  obtain ⟨e3, S3⟩ := S.new (o := .lst (ns'.map V.int)) hn
  exact k _ _ _ e3 S3 ⟨ns', ⟨hp, ho⟩, p, _, rfl, upd_same, al_of_rV _ _⟩
def mergeI (ks more : List (Int × Rp)) : List (Int × Rp) := more.foldl (fun acc p => putI p.1 p.2 acc) ks
theorem AlK.merge {G : Hp} : ∀ {more : List (Int × Rp)} {ys : List (Key × V)} {ks : List (Int × Rp)} {xs : List (Key × V)}, AlK more ys G → AlK ks xs G → AlK (mergeI ks more) (mergeK xs ys) G
  | _, _, _, _, .nil, h => h
  | (j, r) :: more, (j', x) :: ys, ks, xs, .cons ⟨h1, h2⟩ t, h => by
    have h1 : j' = Sum.inl j := h1
    subst h1
    exact AlK.merge (more := more) (ys := ys) (ks := putI j r ks) (xs := putK xs (Sum.inl j) x) t (h.put h2)
theorem mergeI_new : ∀ {more ks : List (Int × Rp)}, ((ks ++ more).map (·.1)).Nodup → mergeI ks more = ks ++ more
  | [], ks, _ => (List.append_nil _).symm
  | p :: t, ks, h => by
    have e : putI p.1 p.2 ks = ks ++ [p] := putI_new fun q hq => by
      rw [List.map_append] at h
      have := (List.nodup_append.mp h).2.2 q.1 (List.mem_map.mpr ⟨q, hq, rfl⟩) p.1 (List.mem_map.mpr ⟨p, List.mem_cons_self, rfl⟩)
      exact this
    show mergeI (putI p.1 p.2 ks) t = _
    rw [e, mergeI_new (by rw [List.append_assoc]; exact h), List.append_assoc]
    rfl
/-- dict() of pairs -/
theorem rc_dictP {ks : List (Int × Rp)} : RcM B L (fun xs H Q => ∃ (a : Addr) (ps : List Addr) (kvs : List (Key × V)), xs = [.ref a] ∧ SqL K H a (ps.map V.ref) ∧ Paired (fun p kv => SqT K H p [kV kv.1, kv.2]) ps kvs ∧
    ∀ p, H p = none → Q (.ref p) (upd H p (.dK (mergeK [] kvs)))) [rLst (ks.map fun p => rTup [rI p.1, p.2])] ctx ms (rDct (mergeI [] ks)) ms := fun σ G H xs S hal Q k => by
  obtain ⟨v, rfl, a, ys, e, ha, hal2⟩ := al1 hal
  subst e
  have key : ∀ {ks : List (Int × Rp)} {ys : List V}, Al (ks.map fun p => rTup [rI p.1, p.2]) ys G → ∃ (ps : List Addr) (kvs : List (Key × V)), ys = ps.map V.ref ∧ Paired (fun p kv => SqT K H p [kV kv.1, kv.2]) ps kvs ∧ AlK ks kvs G := fun {ks} => by
    induction ks with
    | nil => intro ys h; cases h; exact ⟨[], [], rfl, .nil, .nil⟩
    | cons p ks ih =>
      intro ys h
      rw [List.map_cons] at h
      cases h with
      | cons hp t =>
        obtain ⟨q, zs, e, hq, hz⟩ := hp
        obtain ⟨z1, z2, rfl, h1, h2⟩ := al2 hz
        obtain ⟨ps, kvs, e2, h3, h4⟩ := ih t
        have h1 : z1 = .int p.1 := h1
        subst e e2 h1
        exact ⟨q :: ps, (Sum.inl p.1, z2) :: kvs, rfl, .cons (SqT.of (S.ex.tup hq)) h3, .cons ⟨rfl, h2⟩ h4⟩
  obtain ⟨ps, kvs, e2, h3, h4⟩ := key hal2
  subst e2
  refine ⟨a, ps, kvs, rfl, SqL.of (S.ex.lst ha), h3, fun p hp => ?_⟩
  obtain ⟨e3, S3⟩ := S.new (o := .dK (mergeK [] kvs)) hp
  exact k _ _ _ e3 S3 ⟨p, _, rfl, upd_same, (AlK.merge (ks := []) h4 .nil).mono e3⟩
theorem rc_dictN {ks : List (Int × Rp)} (h : (ks.map (·.1)).Nodup) : RcM B L (fun xs H Q => ∃ (a : Addr) (ps : List Addr) (kvs : List (Key × V)), xs = [.ref a] ∧ SqL K H a (ps.map V.ref) ∧ Paired (fun p kv => SqT K H p [kV kv.1, kv.2]) ps kvs ∧
    ∀ p, H p = none → Q (.ref p) (upd H p (.dK (mergeK [] kvs)))) [rLst (ks.map fun p => rTup [rI p.1, p.2])] ctx ms (rDct ks) ms := by
  have z := rc_dictP (B := B) (L := L) (K := K) (ctx := ctx) (ms := ms) (ks := ks)
  rw [mergeI_new (ks := []) h, List.nil_append] at z
  exact z
end
section
variable {X : Cx} {K : PySem.W.Frag}
theorem call_dictPK (hcalm : X.calm = true) (hK : X.K = K := by rfl) : CallR X (.type "dict") (fun xs H Q => ∃ (a : Addr) (ps : List Addr) (kvs : List (Key × V)), xs = [.ref a] ∧ SqL K H a (ps.map V.ref) ∧ Paired (fun p kv => SqT K H p [kV kv.1, kv.2]) ps kvs ∧
    ∀ p, H p = none → Q (.ref p) (upd H p (.dK (mergeK [] kvs)))) := by subst hK; exact call_dictP hcalm
end
section
variable {P : Program} {w : World} {K : PySem.W.Frag} {mg : Str → Option Value} {base : Heap}
def sameB (ps qs : List Pt) : Bool := decide (tabs ps = tabs qs) && decide (whole ps = whole qs)
abbrev ups (n : Nat) : List Int := (List.range n).map fun (i : Nat) => (i : Int)
theorem ups_kept {ps qs : List Pt} {n : Nat} : kept ps (ups n) = kept qs (ups n) ↔ kept ps (List.range n) = kept qs (List.range n) := by
  rw [kept_map, kept_map]
  constructor
  · intro h
    have inj : ∀ l m : List Nat, l.map (fun i : Nat => (i : Int)) = m.map (fun i : Nat => (i : Int)) → l = m := fun l => by
      induction l with
      | nil => intro m h; cases m with
        | nil => rfl
        | cons _ _ => cases h
      | cons a l ih => intro m h; cases m with
        | nil => cases h
        | cons b m =>
          rw [List.map_cons, List.map_cons] at h
          injection h with h1 h2
          rw [ih m h2, show a = b by omega]
    exact inj _ _ h
  · intro h; rw [h]
theorem kept_at {B : Bs} {L : List Addr} {ctx : Ct} {ms : Ms} {ps : List Pt} {i j n : Nat} (hps : okPs ps) (hn : n < 7) (h1 : ctx[i]? = some (some (rLst (ps.map rP)))) (h2 : ctx[j]? = some (some (rN_ n))) :
    EvM B L (tCallR spKept E0 (tCons (tVar i) (tCons (tLstRg (tRg1 (tVar j))) tNil))) ctx ms (rInts (kept ps (ups n))) ms := by
  refine ev_call (⟨ps, ups n, true⟩ : KpX) (ea_cons (ev_var h1) (ea_cons (ev_is (ev_lstRg (ev_var h2) (by omega)) ?_) ea_nil)) ⟨hps.1, hps.2, ?_⟩
  · show rLst _ = rLst _
    rw [List.map_map]
    rfl
  · show (ups n).length ≤ 100
    rw [List.length_map, List.length_range]
    omega
theorem rv_neInts {B : Bs} {L : List Addr} {ctx : Ct} {ms : Ms} {ns ms' : List Int} : RvM B L (rNeD K) (rInts ns) (rInts ms') ctx ms (rB (!decide (ns = ms'))) ms := by
  have z := rv_neD (K := K) (B := B) (L := L) (ctx := ctx) (ms := ms) (dat_ints (ns := ns)) (dat_ints (ns := ms')) (da_ints.shaped (by omega)) (da_ints.shaped (by omega))
  rw [eqv_ints] at z
  exact z
abbrev spSame : Sp := spP (fun (x : List Pt × List Pt) _ => okPs x.1 ∧ okPs x.2) (fun x => [rLst (x.1.map rP), rLst (x.2.map rP)]) (fun x => rB (sameB x.1 x.2))
theorem sc_law_same : FnScope ["_law_one", "_law_other", "_law_size"] ["_law_one", "_law_other"] (defScope s_law_same) := ⟨rfl, rfl, rfl, by decide +kernel, rfl, by decide +kernel, by decide +kernel⟩
theorem cl_law_same (T : Tx P w K mg base) : Cl P w K mg base 2 "_law_same" spSame := by
  obtain ⟨fd, F⟩ := T.def_ di_law_same
  refine ⟨_, T.glo fi_glo_law_same, F.kp, fnR_of F sc_law_same (fun _ => rfl) (fun _ _ _ _ _ _ us hl => match us, hl with | [_, _], _ => rfl) fun cdv A outer s H0 vs Q E hr z L G hp k S => ?_⟩
  have c_law_kept := cl_law_kept T
  obtain ⟨ps, qs⟩ := z
  obtain ⟨h1, h2⟩ : okPs ps ∧ okPs qs := hp
  refine ⟨_, (pss_cons (ps_for PassesOwn.never rfl (pi_range1 (by rfl) (T.free fi_free_range) (pa_cons pe_int pa_nil)) (pg_name (i := 2) sc_law_same.nd rfl (Or.inl rfl))
      (pss_one (ps_if (pt_cmpR (op_neDK (K := K) hr.units) (pe_callR c_law_kept hr (by decide) (by rfl) (pa_cons (pv 0) (pa_cons (pe_listRg rfl (by rfl) (T.free fi_free_list) (prg_1 (by rfl) (T.free fi_free_range) (pv 2))) pa_nil))) (pe_callR c_law_kept hr (by decide) (by rfl) (pa_cons (pv 1) (pa_cons (pe_listRg rfl (by rfl) (T.free fi_free_list) (prg_1 (by rfl) (T.free fi_free_range) (pv 2))) pa_nil))) (nomark _)) (pss_one (ps_ret pe_bl)) pss_nil)))
    (pss_one (ps_ret pe_bl))), ?_⟩
  try dsimp only [L2.cxOf]
  try dsimp only
  refine st_for (ι := Nat) (ei_rng1 (m := 7) (n := 7) (ea_cons ev_c ea_nil) rfl (by omega) (by omega)) S (fun i a => a = i ∧ i ≤ 7 ∧ ∀ n < i, kept ps (List.range n) = kept qs (List.range n)) (fun i => [some (rLst (ps.map rP)), some (rLst (qs.map rP)), none]) (fun _ => []) 0 ⟨rfl, by omega, fun n hn => by omega⟩ (fun B σ G H S => S) (fun B1 G2 H2 i r a σ3 G3 H3 e2 hr ha e3 hl un sm S3 => ?_) (fun a σ3 G3 H3 ha e2 S3 => ?_)
  · obtain ⟨rfl, hi, hall⟩ := ha
    have hlt : a < 7 := by
      have := (List.getElem?_eq_some_iff.mp hr).1
      rw [List.length_map, List.length_range] at this
      exact this
    rw [List.getElem?_map, List.getElem?_range hlt] at hr
    cases hr
    refine ⟨_, [2], gm_name (by simp), fun σ4 G4 H4 e4 S4 => ?_⟩
    refine st_ifP (!decide (kept ps (ups a) = kept qs (ups a))) (et_val (ev_op (kept_at h1 hlt rfl rfl) (kept_at h2 hlt rfl rfl) rv_neInts)) S4 fun G5 H5 e5 S5 => ⟨fun hb => ?_, fun hb => ?_⟩
    · refine st_retP (rB (sameB ps qs)) (ev_b ev_c ?_) S5 fun v G' H' e S' hv => ?_
      rotate_left
      · exact k _ _ G' H' (un S') v hv
      have hne : kept ps (ups a) ≠ kept qs (ups a) := by simpa using hb
      symm
      rw [Bool.eq_false_iff]
      intro z
      unfold sameB at z
      rw [← Bool.decide_and] at z
      exact hne (ups_kept.mpr ((same_iff h1.1 h2.1).mpr (of_decide_eq_true z) a hlt))
    · have he : kept ps (List.range a) = kept qs (List.range a) := ups_kept.mp (by simpa using hb)
      refine ⟨a + 1, G5, ⟨rfl, hlt, fun n hn => ?_⟩, S5.weak (by repeat' constructor)⟩
      by_cases e : n = a
      · rw [e]; exact he
      · exact hall n (by omega)
  · obtain ⟨rfl, _, hall⟩ := ha
    rw [List.length_map, List.length_range] at hall
    dsimp only
    refine st_retP (rB (sameB ps qs)) (ev_b ev_c ?_) S3 fun v G' H' e S' hv => k _ _ G' H' S' v hv
    symm
    unfold sameB
    rw [← Bool.decide_and]
    exact decide_eq_true ((same_iff h1.1 h2.1).mp hall)
abbrev spRuleOf (K : Fr) : Sp := spP (fun (x : List Pt × Bool) _ => okPs x.1) (fun x => [rLst (x.1.map rP), rB x.2]) (fun x => rRule K x.1 x.2)
theorem sc_law_rule_of : FnScope ["_law_parts_here", "_law_sees"] ["_law_parts_here", "_law_sees"] (defScope s_law_rule_of) := ⟨rfl, rfl, rfl, by decide +kernel, rfl, by decide +kernel, by decide +kernel⟩
theorem cl_law_rule_of (T : Tx P w K mg base) : Cl P w K mg base 6 "_law_rule_of" (spRuleOf K) := by
  obtain ⟨fd, F⟩ := T.def_ di_law_rule_of
  refine ⟨_, T.glo fi_glo_law_rule_of, F.kp, fnR_of F sc_law_rule_of (fun _ => rfl) (fun _ _ _ _ _ _ us hl => match us, hl with | [_, _], _ => rfl) fun cdv A outer s H0 vs Q E hr z L G hp k S => ?_⟩
  have kk_Rule := kk_Rule_ T
  have cm_Cutter_of := cm_Cutter_of_ T
  obtain ⟨ps, se⟩ := z
  have h1 : okPs ps := hp
  refine ⟨_, (pss_one (ps_ret (pe_mkK kk_Rule hr (by decide) (by rfl) (pa_cons (pe_cm cm_Cutter_of hr (by decide) (by rfl) (pa_cons (pe_tupleK (K := K) (by rfl) (T.free fi_free_tuple) (pv 0)) pa_nil)) pa_nil) (pk_cons (pv 1) pk_nil)))), ?_⟩
  try dsimp only [L2.cxOf]
  refine st_retP (rRule K ps se) ?_ S fun v G' H' e S' hv => k _ _ G' H' S' v hv
  exact ev_mkK (x := (ps, se)) (as := [rCut K ps]) (bs := [rB se]) (ea_cons (ev_cm (x := ps) (ea_cons (ev_tupOfL (ev_var rfl)) ea_nil) rfl h1) ea_nil) (ea_cons (ev_var rfl) ea_nil) rfl rfl rfl trivial
/-! ### neighbours -/
structure NbX where
  mm : List Int
  b : Int → List Int
  se : Bool
  x : Int
  y : Int
abbrev rBd (mk : List Int) (b : Int → List Int) : Rp := rDct (mk.map fun m => (m, rInts (b m)))
abbrev spNb : Sp := spP (fun (z : NbX) _ => z.x ∈ z.mm ∧ z.y ∈ z.mm ∧ (z.b z.x).length ≤ 100) (fun z => [rBd z.mm z.b, rB z.se, rI z.x, rI z.y]) (fun z => rB (adj z.se z.b z.x z.y))
theorem sc_law_are_neighbours : FnScope ["_law_bound", "_law_sees", "_law_one", "_law_other", "_law_shared", "_law_mark"] ["_law_bound", "_law_sees", "_law_one", "_law_other"] (defScope s_law_are_neighbours) := ⟨rfl, rfl, rfl, by decide +kernel, rfl, by decide +kernel, by decide +kernel⟩
theorem cl_law_are_neighbours (T : Tx P w K mg base) : Cl P w K mg base 1 "_law_are_neighbours" spNb := by
  obtain ⟨fd, F⟩ := T.def_ di_law_are_neighbours
  refine ⟨_, T.glo fi_glo_law_are_neighbours, F.kp, fnR_of F sc_law_are_neighbours (fun _ => rfl) (fun _ _ _ _ _ _ us hl => match us, hl with | [_, _, _, _], _ => rfl) fun cdv A outer s H0 vs Q E hr z L G hp k S => ?_⟩
  obtain ⟨mk, b, se, x, y⟩ := z
  obtain ⟨hx, hy, hl⟩ : x ∈ mk ∧ y ∈ mk ∧ (b x).length ≤ 100 := hp
  have lx : lookI x (mk.map fun m => (m, rInts (b m))) = some (rInts (b x)) := look_fn (f := fun m => rInts (b m)) hx
  have ly : lookI y (mk.map fun m => (m, rInts (b m))) = some (rInts (b y)) := look_fn (f := fun m => rInts (b m)) hy
  have vne : (!decide (V.int x = V.int y)) = decide (x ≠ y) := by by_cases e : x = y <;> simp [e]
  refine ⟨_, (pss_cons (ps_if (PW.pt (pw_or (pt_cmpR (op_inK (K := K)) (pv 2) (pe_dget (hu_of hr) (pv 0) (pv 3) (fun _ _ => rfl)) (by rfl)) (pw_or1 (pt_cmpR (op_inK (K := K)) (pv 3) (pe_dget (hu_of hr) (pv 0) (pv 2) (fun _ _ => rfl)) (by rfl))))) (pss_one (ps_ret (pe_cmpR op_ne (pv 2) (pv 3) (nomark _)))) pss_nil)
    (pss_cons (ps_setLc (i := 4) (own := [("_law_mark", 5)]) rfl sc_law_are_neighbours.nd rfl rfl (sw_true rfl rfl rfl (by decide +kernel)) (pi_tupK (K := K) (pe_dget (hu_of hr) (pv 0) (pv 2) (fun _ _ => rfl))) (blkOk_by (own := [("_law_mark", 5)]) (N := ["_law_bound", "_law_sees", "_law_one", "_law_other", "_law_shared", "_law_mark"]) (sc := defScope s_law_are_neighbours) (by decide +kernel)) (fun _ _ _ _ _ => (pg_name (i := 5) sc_law_are_neighbours.nd rfl (Or.inl rfl) (Or.inr rfl))) (fun _ _ _ _ _ => (pts_one (pt_cmpR (op_inK (K := K)) (pv 5) (pe_dget (hu_of hr) (pv 0) (pv 3) (fun _ _ => rfl)) (by rfl)))) (fun _ _ _ _ _ => (pv 5)))
    (pss_one (ps_ret (pe_and (pv 1) (pe_and (pe_cmpR op_ne (pv 2) (pv 3) (nomark _)) (pe_one (pe_cmpR (op_neDK (K := K) hr.units) (pv 4) (pe_lst pa_nil) (nomark _))))))))), ?_⟩
  try dsimp only [L2.cxOf]
  refine st_ifP (decide (x ∈ b y) || decide (y ∈ b x)) (et_or (et_val (ev_op (ev_var rfl) (ev_dget (ev_var rfl) (ev_var rfl) ly) rv_inT)) fun _ => et_val (ev_op (ev_var rfl) (ev_dget (ev_var rfl) (ev_var rfl) lx) rv_inT)) S fun G1 H1 e1 S1 => ⟨fun hb => ?_, fun hb => ?_⟩
  · refine st_retP (rB (adj se b x y)) (ev_b (ev_op (ev_var rfl) (ev_var rfl) (rv_ne rfl)) ?_) S1 fun v G' H' e S' hv => k _ _ G' H' S' v hv
    unfold adj
    rw [hb, vne]
    simp
  · dsimp only [tNext]
    refine st_setP (i := 4) (rLst (((b x).filter fun s => decide (s ∈ b y)).map rI)) ?_ S1 fun σ2 G2 H2 e2 S2 => ?_
    · exact ev_lc (b x) (f := rI) (e := rI) (b := fun s => decide (s ∈ b y)) (ei_tup (ev_dget (ev_var rfl) (ev_var rfl) lx)) (by omega) (fun s hs => gm_name (by simp)) (fun s hs B => et_val (ev_op (ev_var rfl) (ev_dget (ev_var rfl) (ev_var rfl) ly) rv_inT)) fun s hs hb B => ev_var rfl
    dsimp only
    refine st_retP (rB (adj se b x y)) (ev_b (ev_andV (ev_var rfl) fun _ => ev_andV (ev_op (ev_var rfl) (ev_var rfl) (rv_ne rfl)) fun _ => ev_op (ev_var rfl) ev_nil rv_neNil) ?_) S2 fun v G' H' e S' hv => k _ _ G' H' S' v hv
    unfold adj
    rw [hb, vne]
    have : (!((b x).filter fun s => decide (s ∈ b y)).isEmpty) = (b x).any fun s => decide (s ∈ b y) := by
      induction b x with
      | nil => rfl
      | cons a t ih =>
        rw [List.filter_cons, List.any_cons]
        by_cases q : a ∈ b y
        · simp [q]
        · simp only [q, decide_false, Bool.false_eq_true, if_false, Bool.false_or]; exact ih
    rw [this]
    cases se <;> simp
end
end K62
set_option maxHeartbeats 4000000
/-! K62Dn: the search of a group. -/
namespace K62
open PySem PySem.Spec PyProof.Rows L2
local macro_rules | `(tactic| walk_at "ev") => `(tactic| repeat' (first
  | ((with_reducible apply ev_var); exact rfl)
  | with_reducible exact ev_c
  | with_reducible exact ea_nil
  | with_reducible exact et_yes
  | with_reducible exact rv_I0
  | with_reducible exact eo_none
  | with_reducible apply eo_some
  | with_reducible apply ea_cons
  | with_reducible apply ev_op
  | (with_reducible apply ev_andV <;> try intro _)
  | (with_reducible apply ev_orV <;> try intro _)
  | with_reducible apply ev_notV
  | with_reducible apply ev_tup
  | with_reducible apply ev_lst
  | with_reducible apply ev_neg
  | with_reducible apply ev_cb
  | with_reducible apply et_B
  | with_reducible apply et_val
  | with_reducible apply et_not
  | (with_reducible apply et_and <;> try intro _)
  | (with_reducible apply et_or <;> try intro _)
  | with_reducible apply ev_call
  | with_reducible apply ev_fld
  | with_reducible exact cls_Cutter (by assumption)
  | with_reducible exact cls_Rule (by assumption)
  | with_reducible exact cls_Page (by assumption)
  | with_reducible exact cls_Inbox (by assumption)
  | with_reducible exact na_parts (by assumption)
  | with_reducible exact na_tables (by assumption)
  | with_reducible exact na_whole (by assumption)
  | with_reducible exact na_cutter (by assumption)
  | with_reducible exact na_sees (by assumption)
  | with_reducible exact na_rule (by assumption)
  | with_reducible exact na_pmarks (by assumption)
  | with_reducible exact na_letters (by assumption)
  | with_reducible exact na_bound (by assumption)
  | with_reducible exact na_shown (by assumption)
  | with_reducible exact na_moves (by assumption)
  | with_reducible exact na_near (by assumption)
  | with_reducible exact na_groups (by assumption)
  | with_reducible exact na_pages (by assumption)
  | with_reducible exact na_version (by assumption)
  | with_reducible exact na_marks (by assumption)
  | with_reducible exact isi_str (by assumption)
  | with_reducible exact isi_int (by assumption)
  | with_reducible exact isi_intbool (by assumption)
  | with_reducible exact isi_bool (by assumption)
  | with_reducible exact isi_tup (by assumption)
  | with_reducible exact isi_Cutter (by assumption)
  | with_reducible exact isi_Rule (by assumption)
  | with_reducible exact isi_Inbox (by assumption)
  | with_reducible exact rc_lenT
  | with_reducible exact rc_lenL
  | with_reducible apply rc_lenS
  | with_reducible exact rc_abs
  | with_reducible exact rc_max
  | with_reducible exact rc_min
  | with_reducible exact rc_int
  | with_reducible exact rc_intB
  | with_reducible exact rv_inSign
  | with_reducible exact rv_inT
  | with_reducible exact rv_inL
  | with_reducible exact rv_ninL
  | with_reducible exact rv_ixT0
  | with_reducible exact rv_ixT1
  | with_reducible exact rv_ixT2
  | with_reducible exact rv_ixT3
  | with_reducible exact rv_ixL0
  | with_reducible exact rv_ixL1
  | with_reducible exact rv_ixL2))
theorem nodup_le : ∀ {F M : List Int}, F.Nodup → (∀ x ∈ F, x ∈ M) → F.length ≤ M.length
  | [], _, _, _ => Nat.zero_le _
  | x :: F, M, h, s => by
    obtain ⟨h1, h2⟩ := List.nodup_cons.mp h
    have hx : x ∈ M := s x List.mem_cons_self
    have ih := nodup_le (F := F) (M := M.erase x) h2 fun y hy => (List.mem_erase_of_ne (fun e => h1 (by rw [← e]; exact hy))).mpr (s y (List.mem_cons_of_mem _ hy))
    rw [List.length_erase_of_mem hx] at ih
    have := List.length_pos_of_mem hx
    rw [List.length_cons]
    omega
section
variable {B : Bs} {L : List Addr} {ctx : Ct} {ms ms1 ms2 : Ms} {te : TE} {ta tb : TA} {r : Rp} {rs ss : List Rp} {K : PySem.W.Frag} {D : Ends} {σ : L2.St} {G H : Hp}
/-- a, b = [..], [..] : both cells -/
theorem st_parMM {i j : Nat} (ha : EvA B L ta ctx ms rs ms1) (hb : ∀ ms', EvA B L tb ctx ms' ss ms') (h1 : rs.length ≤ 100000) (h2 : ss.length ≤ 100000) (S : Sx B L ctx ms σ G H) (k : ∀ d d2 σ' G' H', Same G G' → Sx B L ((ctx.set i (some (rV (.ref d)))).set j (some (rV (.ref d2)))) ((d2, .lst ss) :: (d, .lst rs) :: ms1) σ' G' H' → D.nx σ' H') :
    tPar i j (tCons (tLst ta) (tCons (tLst tb) tNil)) D σ H := ha σ G H S _ fun xs G1 H1 e1 S1 hal => ⟨line_of (by rw [← hal.len]; exact h1), fun p hp =>
  hb _ σ G1 _ (S1.newM hp (.lst upd_same hal)) _ fun ys G2 H2 e2 S2 hbl => ⟨line_of (by rw [← hbl.len]; exact h2), fun q hq => ⟨.ref p, .ref q, rfl, k p q _ G2 _ (e1.trans e2) (((S2.newM hq (.lst upd_same hbl)).set rfl).set rfl)⟩⟩⟩
theorem rv_neNilM {c : List Int} {a : Addr} {j : Nat} (hj : ms[j]? = some (a, .lst (c.map rI))) : RvM B L (rNeD K) (rV (.ref a)) (rLst []) ctx ms (rB (!c.isEmpty)) ms := fun σ G H x y S hx hy Q k => by
  have hx : x = .ref a := hx
  subst hx
  have c0 : CAt a G H (.lst (c.map rI)) := S.mem.at_ _ (List.mem_of_getElem? hj)
  cases c0 with
  | @lst _ xs ha hal =>
    have h2 : Dat K (rLst []) (.list []) := dat_lst .nil
    refine ⟨.list (c.map .int), .list [], .lst (SqL.of ha) (dat_all S.ex (paired_map fun _ _ => dat_int) hal), h2 _ _ _ _ S.ex hy, (da_lst (da_map fun _ _ => da_int)).shaped (by omega), (da_lst (k := 0) (by simp)).shaped (by omega), ?_⟩
    rw [eqv_nil]
    exact k _ G H (Same.refl G) S rfl
end
/-! ### the search -/
structure Srch (mm : List Int) (ad : Int → Int → Bool) (s : Int) (F L : List Int) : Prop where
  nd : F.Nodup
  s0 : s ∈ F
  sub : ∀ x ∈ F, x ∈ mm
  rc : ∀ x ∈ F, Rch mm ad s x
  ls : ∀ x ∈ L, x ∈ F
  le : L.length ≤ F.length
structure SrchI (mm : List Int) (ad : Int → Int → Bool) (s h : Int) (F0 L0 near : List Int) (i : Nat) (F L : List Int) : Prop where
  b : Srch mm ad s F L
  h0 : h ∈ F
  cl : ∀ x ∈ F, x ∉ L → x = h ∨ ∀ y ∈ mm, ad x y = true → y ∈ F
  len : L.length + F0.length = L0.length + F.length
  nr : ∀ y ∈ near.take i, y ∈ F
  gr : F0.length ≤ F.length
theorem SrchI.keep {mm : List Int} {ad : Int → Int → Bool} {s h : Int} {F0 L0 near : List Int} {i : Nat} {F L : List Int} (z : SrchI mm ad s h F0 L0 near i F L) {y : Int} (hy : near[i]? = some y) (hF : y ∈ F) : SrchI mm ad s h F0 L0 near (i + 1) F L :=
  ⟨z.b, z.h0, z.cl, z.len, fun x hx => by
    rw [List.take_add_one, hy] at hx
    rcases List.mem_append.mp hx with q | q
    · exact z.nr x q
    · have : x = y := by simpa using q
      rw [this]; exact hF, z.gr⟩
theorem SrchI.add {mm : List Int} {ad : Int → Int → Bool} {s h : Int} {F0 L0 near : List Int} {i : Nat} {F L : List Int} (z : SrchI mm ad s h F0 L0 near i F L) {y : Int} (hy : near[i]? = some y) (hF : y ∉ F) (hm : y ∈ mm) (ha : ad h y = true) : SrchI mm ad s h F0 L0 near (i + 1) (F ++ [y]) (L ++ [y]) :=
  ⟨⟨List.nodup_append.mpr ⟨z.b.nd, by simp, fun x hx w hw e => by
      have : w = y := by simpa using hw
      exact hF (by rw [← this, ← e]; exact hx)⟩, List.mem_append_left _ z.b.s0, fun x hx => by
      rcases List.mem_append.mp hx with q | q
      · exact z.b.sub x q
      · have : x = y := by simpa using q
        rw [this]; exact hm, fun x hx => by
      rcases List.mem_append.mp hx with q | q
      · exact z.b.rc x q
      · have : x = y := by simpa using q
        rw [this]; exact .step (z.b.rc h z.h0) hm ha, fun x hx => by
      rcases List.mem_append.mp hx with q | q
      · exact List.mem_append_left _ (z.b.ls x q)
      · exact List.mem_append_right _ q, by have := z.b.le; simp only [List.length_append]; omega⟩, List.mem_append_left _ z.h0, fun x hx hl => by
    rcases List.mem_append.mp hx with q | q
    · rcases z.cl x q (fun w => hl (List.mem_append_left _ w)) with e | e
      · exact .inl e
      · exact .inr fun y hy ha => List.mem_append_left _ (e y hy ha)
    · exact absurd (List.mem_append_right _ q) hl, by have := z.len; simp only [List.length_append]; omega, fun x hx => by
    rw [List.take_add_one, hy] at hx
    rcases List.mem_append.mp hx with q | q
    · exact List.mem_append_left _ (z.nr x q)
    · exact List.mem_append_right _ (by simpa using q), by have := z.gr; simp only [List.length_append]; omega⟩
section
variable {P : Program} {w : World} {K : PySem.W.Frag} {mg : Str → Option Value} {base : Heap}
structure RcX where
  mm : List Int
  b : Int → List Int
  se : Bool
  s : Int
structure RcX.ok (x : RcX) : Prop where
  lt : x.mm.Pairwise (· < ·)
  s0 : x.s ∈ x.mm
  len : x.mm.length ≤ 100
  bl : ∀ m ∈ x.mm, (x.b m).length ≤ 100
noncomputable abbrev spReached : Sp := spP (fun (x : RcX) _ => x.ok) (fun x => [rBd x.mm x.b, rB x.se, rLst (x.mm.map rI), rI x.s]) (fun x => rLst ((comp x.mm (adj x.se x.b) x.s).map rI))
theorem sc_law_reached : FnScope ["_law_bound", "_law_sees", "_law_came", "_law_one", "_law_found", "_law_left", "_law_here", "_law_near", "_law_mark"] ["_law_bound", "_law_sees", "_law_came", "_law_one"] (defScope s_law_reached) := ⟨rfl, rfl, rfl, by decide +kernel, rfl, by decide +kernel, by decide +kernel⟩
theorem cl_law_reached (T : Tx P w K mg base) : Cl P w K mg base 2 "_law_reached" spReached := by
  obtain ⟨fd, F⟩ := T.def_ di_law_reached
  refine ⟨_, T.glo fi_glo_law_reached, F.kp, fnR_of F sc_law_reached (fun _ => rfl) (fun _ _ _ _ _ _ us hl => match us, hl with | [_, _, _, _], _ => rfl) fun cdv A outer s H0 vs Q E hr z L G hp k S => ?_⟩
  have c_law_are_neighbours := cl_law_are_neighbours T
  obtain ⟨mm, b, se, s⟩ := z
  obtain ⟨hlt, hs, hlen, hbl⟩ := hp
  dsimp only at hlt hs hlen hbl
  refine ⟨_, (pss_cons (ps_par (i := 4) (j := 5) rfl sc_law_reached.nd rfl rfl (by decide) rfl rfl (pa_cons (pe_lst (pa_cons (pv 3) pa_nil)) (pa_cons (pe_lst (pa_cons (pv 3) pa_nil)) pa_nil)) rfl)
    (pss_cons (ps_while PassesOwn.never (pt_cmpR (op_neDK (K := K) hr.units) (pv 5) (pe_lst pa_nil) (nomark _)) (pss_cons (ps_set (i := 6) sc_law_reached.nd rfl (Or.inr rfl) (pe_bm0K (K := K) PySem.F.plainAttrs_list PySem.F.slot_list_pop PySem.F.type_list_pop mt_pop (pv 5)))
    (pss_cons (ps_setLc (i := 7) (own := [("_law_mark", 8)]) rfl sc_law_reached.nd rfl rfl (sw_true rfl rfl rfl (by decide +kernel)) (pi_listK (K := K) (pv 2)) (blkOk_by (own := [("_law_mark", 8)]) (N := ["_law_bound", "_law_sees", "_law_came", "_law_one", "_law_found", "_law_left", "_law_here", "_law_near", "_law_mark"]) (sc := defScope s_law_reached) (by decide +kernel)) (fun _ _ _ _ _ => (pg_name (i := 8) sc_law_reached.nd rfl (Or.inl rfl) (Or.inr rfl))) (fun _ _ _ _ _ => (pts_one (pt_val (pe_callR c_law_are_neighbours hr (by decide) (by rfl) (pa_cons (pv 0) (pa_cons (pv 1) (pa_cons (pv 6) (pa_cons (pv 8) pa_nil)))))))) (fun _ _ _ _ _ => (pv 8)))
    (pss_one (ps_for PassesOwn.never rfl (pi_listK (K := K) (pv 7)) (pg_name (i := 8) sc_law_reached.nd rfl (Or.inl rfl))
      (pss_one (ps_if (pt_cmpR (op_notInK (K := K)) (pv 8) (pv 4) (by rfl)) (pss_cons (ps_expr (pe_bmK (K := K) PySem.F.plainAttrs_list PySem.F.slot_list_append PySem.F.type_list_append mt_append (pv 4) (pa_cons (pv 8) pa_nil)))
    (pss_one (ps_expr (pe_bmK (K := K) PySem.F.plainAttrs_list PySem.F.slot_list_append PySem.F.type_list_append mt_append (pv 5) (pa_cons (pv 8) pa_nil))))) pss_nil)))))))
    (pss_one (ps_ret (pe_callB (id := "sorted") (cr_sortedK (K := K)) (by rfl) (T.free fi_free_sorted) (by decide +kernel) (pa_cons (pv 4) pa_nil)))))), ?_⟩
  try dsimp only [L2.cxOf]
  refine st_parMM (rs := [rI s]) (ss := [rI s]) (ea_cons (ev_var rfl) ea_nil) (fun ms' => ea_cons (ev_var rfl) ea_nil) (by simp) (by simp) S fun d d2 σ1 G1 H1 e1 S1 => ?_
  dsimp only
  refine st_while (ι := List Int × List Int) S1 (fun x => Srch mm (adj se b) s x.1 x.2 ∧ ∀ y ∈ x.1, y ∉ x.2 → ∀ z ∈ mm, adj se b y z = true → z ∈ x.1) (fun x => 2 * (mm.length - x.1.length) + x.2.length)
    (fun _ => [some (rBd mm b), some (rB se), some (rLst (mm.map rI)), some (rI s), some (rV (.ref d)), some (rV (.ref d2)), none, none, none]) (fun x => [(d2, .lst (x.2.map rI)), (d, .lst (x.1.map rI))]) ([s], [s])
    ⟨⟨by simp, by simp, fun x hx => by rw [List.mem_singleton.mp hx]; exact hs, fun x hx => by rw [List.mem_singleton.mp hx]; exact .refl, fun x hx => hx, Nat.le_refl _⟩, fun y hy hn => absurd hy hn⟩ (S1.weak (by repeat' constructor)) (fun x => !x.2.isEmpty)
    (fun x _ => et_val (ev_op (ev_var rfl) ev_nil (rv_neNilM (j := 0) rfl))) (fun x hx hb σ2 G2 H2 e2 S2 => ?_) (fun x σ2 G2 H2 hx hb e2 S2 => ?_)
  · obtain ⟨F, Lf⟩ := x
    obtain ⟨sr, scl⟩ := hx
    dsimp only at sr scl hb S2
    have hne : Lf ≠ [] := by intro e; rw [e] at hb; cases hb
    obtain ⟨L', h, hL⟩ : ∃ L' h, Lf = L' ++ [h] := ⟨Lf.dropLast, Lf.getLast hne, (List.dropLast_concat_getLast hne).symm⟩
    subst hL
    have hF : h ∈ F := sr.ls h (by simp)
    have hm : h ∈ mm := sr.sub h hF
    have fle : F.length ≤ mm.length := nodup_le sr.nd sr.sub
    rw [List.map_append, List.map_cons, List.map_nil] at S2
    refine st_set (i := 6) (r := rI h) (ev_pop (j := 0) (rs := L'.map rI) (r := rI h) (ev_var rfl) rfl) S2 fun σ3 G3 H3 e3 S3 => ?_
    dsimp only
    refine st_setP (i := 7) (rLst ((mm.filter fun y => adj se b h y).map rI)) ?_ S3 fun σ4 G4 H4 e4 S4 => ?_
    · exact ev_lc mm (f := rI) (e := rI) (b := fun y => adj se b h y) (ei_list (ev_var rfl)) (by omega) (fun s hs => gm_name (by simp)) (fun y hy B => et_B (ev_call (⟨mm, b, se, h, y⟩ : NbX) (ea_cons (ev_var rfl) (ea_cons (ev_var rfl) (ea_cons (ev_var rfl) (ea_cons (ev_var rfl) ea_nil)))) ⟨hm, hy, hbl h hm⟩)) fun s hs hb B => ev_var rfl
    dsimp only
    have hall : ∀ x ∈ F, x ∉ L' → x = h ∨ ∀ y ∈ mm, adj se b x y = true → y ∈ F := fun x hx hl => by
      by_cases e : x = h
      · exact .inl e
      · exact .inr (scl x hx fun q => (List.mem_append.mp q).elim hl fun q => e (by simpa using q))
    have hle : L'.length + 1 ≤ F.length := by have := sr.le; rw [List.length_append] at this; exact this
    refine st_for (ι := List Int × List Int) (ei_list (ev_var rfl)) S4 (fun i x => SrchI mm (adj se b) s h F L' (mm.filter fun y => adj se b h y) i x.1 x.2)
      (fun _ => [some (rBd mm b), some (rB se), some (rLst (mm.map rI)), some (rI s), some (rV (.ref d)), some (rV (.ref d2)), some (rI h), some (rLst ((mm.filter fun y => adj se b h y).map rI)), none]) (fun x => [(d2, .lst (x.2.map rI)), (d, .lst (x.1.map rI))]) (F, L')
      ⟨⟨sr.nd, sr.s0, sr.sub, sr.rc, fun x hx => sr.ls x (List.mem_append_left _ hx), by show L'.length ≤ F.length; omega⟩, hF, hall, Nat.add_comm _ _ |>.trans (Nat.add_comm _ _), fun y hy => by simp at hy, Nat.le_refl _⟩ (fun B σ G H S => S.weak (by repeat' constructor)) (fun B1 G5 H5 i r x σ6 G6 H6 e5 hr hx e6 hl un sm S6 => ?_) (fun x σ6 G6 H6 hx e5 S6 => ?_)
    · obtain ⟨F', L2⟩ := x
      dsimp only at hx S6
      rw [List.getElem?_map] at hr
      cases hq : (mm.filter fun y => adj se b h y)[i]? with
      | none => rw [hq] at hr; cases hr
      | some y =>
        rw [hq] at hr
        cases hr
        have hy := List.mem_filter.mp (List.mem_of_getElem? hq)
        have fle' : F'.length ≤ mm.length := nodup_le hx.b.nd hx.b.sub
        have lle' : L2.length ≤ F'.length := hx.b.le
        refine ⟨_, [8], gm_name (by simp), fun σ7 G7 H7 e7 S7 => ?_⟩
        refine st_ifP (!decide (y ∈ F')) (et_val (ev_op (ev_var rfl) (ev_var rfl) (rv_ninM (j := 1) rfl))) S7 fun G8 H8 e8 S8 => ⟨fun hb => ?_, fun hb => ?_⟩
        · have hn : y ∉ F' := by simpa using hb
          refine st_drop (ev_append (j := 1) (rs := F'.map rI) (r := rI y) (ev_var rfl) (ea_cons (ev_var rfl) ea_nil) ⟨1, _, rfl⟩ rfl (by rw [List.length_map]; omega)) S8 fun G9 H9 e9 S9 => ?_
          dsimp only
          refine st_drop (ev_append (j := 0) (rs := L2.map rI) (r := rI y) (ev_var rfl) (ea_cons (ev_var rfl) ea_nil) ⟨0, _, rfl⟩ rfl (by rw [List.length_map]; omega)) S9 fun G10 H10 e10 S10 => ?_
          refine ⟨(F' ++ [y], L2 ++ [y]), G10, hx.add hq hn hy.1 hy.2, ?_⟩
          dsimp only
          rw [List.map_append, List.map_append]
          exact S10.weak (by repeat' constructor)
        · have hn : y ∈ F' := by simpa using hb
          exact ⟨(F', L2), G8, hx.keep hq hn, S8.weak (by repeat' constructor)⟩
    · obtain ⟨F', L2⟩ := x
      dsimp only at hx S6
      rw [List.length_map] at hx
      have nr := hx.nr
      rw [List.take_length] at nr
      have fle' : F'.length ≤ mm.length := nodup_le hx.b.nd hx.b.sub
      have len := hx.len
      refine ⟨(F', L2), G6, ⟨hx.b, fun y hy hn z hz ha => ?_⟩, ?_, e2.trans (e3.trans (e4.trans e5)), S6.weak (by repeat' constructor)⟩
      · rcases hx.cl y hy hn with e | e
        · subst e; exact nr z (List.mem_filter.mpr ⟨hz, ha⟩)
        · exact e z hz ha
      · show 2 * (mm.length - F'.length) + L2.length < 2 * (mm.length - F.length) + (L' ++ [h]).length
        rw [List.length_append, List.length_singleton]
        have := hx.b.le
        have : F.length ≤ F'.length := hx.gr
        omega
  · obtain ⟨F, Lf⟩ := x
    obtain ⟨sr, scl⟩ := hx
    dsimp only at sr scl hb S2
    have hne : Lf = [] := by cases Lf with
      | nil => rfl
      | cons _ _ => cases hb
    subst hne
    dsimp only
    refine st_retP (rLst ((comp mm (adj se b) s).map rI)) ?_ S2 fun v G' H' e S' hv => k _ _ G' H' S'.forget.forget v hv
    refine ev_imp (ev_cb (ea_cons (ev_var rfl) ea_nil) (rc_sortedM (ns := F) (j := 1) rfl)) fun v G ⟨ns, ⟨p1, p2⟩, hv⟩ => ?_
    have := comp_uniq hlt hs sr.nd sr.s0 sr.rc (fun x hx y hy ha => scl x hx (by simp) y hy ha) p1 p2
    rw [this] at hv
    exact hv
end
end K62
set_option maxHeartbeats 4000000
/-! K62Do: pages of the law. -/
namespace K62
open PySem PySem.Spec PyProof.Rows L2
local macro_rules | `(tactic| walk_at "ev") => `(tactic| repeat' (first
  | ((with_reducible apply ev_var); exact rfl)
  | with_reducible exact ev_c
  | with_reducible exact ea_nil
  | with_reducible exact et_yes
  | with_reducible exact rv_I0
  | with_reducible exact eo_none
  | with_reducible apply eo_some
  | with_reducible apply ea_cons
  | with_reducible apply ev_op
  | (with_reducible apply ev_andV <;> try intro _)
  | (with_reducible apply ev_orV <;> try intro _)
  | with_reducible apply ev_notV
  | with_reducible apply ev_tup
  | with_reducible apply ev_lst
  | with_reducible apply ev_neg
  | with_reducible apply ev_cb
  | with_reducible apply et_B
  | with_reducible apply et_val
  | with_reducible apply et_not
  | (with_reducible apply et_and <;> try intro _)
  | (with_reducible apply et_or <;> try intro _)
  | with_reducible apply ev_call
  | with_reducible apply ev_fld
  | with_reducible exact cls_Cutter (by assumption)
  | with_reducible exact cls_Rule (by assumption)
  | with_reducible exact cls_Page (by assumption)
  | with_reducible exact cls_Inbox (by assumption)
  | with_reducible exact na_parts (by assumption)
  | with_reducible exact na_tables (by assumption)
  | with_reducible exact na_whole (by assumption)
  | with_reducible exact na_cutter (by assumption)
  | with_reducible exact na_sees (by assumption)
  | with_reducible exact na_rule (by assumption)
  | with_reducible exact na_pmarks (by assumption)
  | with_reducible exact na_letters (by assumption)
  | with_reducible exact na_bound (by assumption)
  | with_reducible exact na_shown (by assumption)
  | with_reducible exact na_moves (by assumption)
  | with_reducible exact na_near (by assumption)
  | with_reducible exact na_groups (by assumption)
  | with_reducible exact na_pages (by assumption)
  | with_reducible exact na_version (by assumption)
  | with_reducible exact na_marks (by assumption)
  | with_reducible exact isi_str (by assumption)
  | with_reducible exact isi_int (by assumption)
  | with_reducible exact isi_intbool (by assumption)
  | with_reducible exact isi_bool (by assumption)
  | with_reducible exact isi_tup (by assumption)
  | with_reducible exact isi_Cutter (by assumption)
  | with_reducible exact isi_Rule (by assumption)
  | with_reducible exact isi_Inbox (by assumption)
  | with_reducible exact rc_lenT
  | with_reducible exact rc_lenL
  | with_reducible apply rc_lenS
  | with_reducible exact rc_abs
  | with_reducible exact rc_max
  | with_reducible exact rc_min
  | with_reducible exact rc_int
  | with_reducible exact rc_intB
  | with_reducible exact rv_inSign
  | with_reducible exact rv_inT
  | with_reducible exact rv_inL
  | with_reducible exact rv_ninL
  | with_reducible exact rv_ixT0
  | with_reducible exact rv_ixT1
  | with_reducible exact rv_ixT2
  | with_reducible exact rv_ixT3
  | with_reducible exact rv_ixL0
  | with_reducible exact rv_ixL1
  | with_reducible exact rv_ixL2))
section
variable {B : Bs} {L : List Addr} {ctx : Ct} {ms ms1 ms2 : Ms} {te : TE} {ta tb : TA} {wi : TI} {r : Rp} {rs ss : List Rp} {K : PySem.W.Frag} {D : Ends} {σ : L2.St} {G H : Hp}
theorem ei_is (h : EvI B L wi ctx ms rs ms1) (e : rs = ss) : EvI B L wi ctx ms ss ms1 := e ▸ h
theorem Sx.freezeS {a : Addr} {c : Cell} {i : Nat} (S : Sx B L ctx ((a, c) :: ms) σ G H) (hb : B.H a = none) (h : ctx[i]? = some (some (rV (.ref a)))) : ∃ G', Same G G' ∧ Sx B L (ctx.set i (some c.rp)) ms σ G' H := by
  obtain ⟨G', e, S', hv⟩ := S.freeze hb
  exact ⟨G', e, S'.turn h fun v hv' => by have : v = .ref a := hv'; subst this; exact hv⟩
/-- a, b, c = {}, [], [] : two cells -/
theorem st_par3D {i j l : Nat} (S : Sx B L ctx ms σ G H) (k : ∀ d d2 σ' G' H', Same G G' → Sx B L (((ctx.set i (some (rV (.ref d)))).set j (some (rV (.ref d2)))).set l (some (rLst []))) ((d2, .lst []) :: (d, .dct []) :: ms) σ' G' H' → D.nx σ' H') :
    tPar3 i j l (tCons tDNewK (tCons (tLst tNil) (tCons (tLst tNil) tNil))) D σ H := fun p hp => ⟨by decide, fun q hq => ⟨by decide, fun u hu => by
  have S1 := S.newM (c := .dct []) hp (.dct upd_same .nil)
  have S2 := S1.newM (c := .lst []) hq (.lst upd_same .nil)
  obtain ⟨e3, S3⟩ := S2.new (o := .lst []) hu
  exact ⟨.ref p, .ref q, .ref u, rfl, k p q _ _ _ e3 (((S3.set rfl).set rfl).set ⟨u, [], rfl, upd_same, .nil⟩)⟩⟩⟩
end
theorem erase_perm {α : Type} : ∀ {l : List α} {n : Nat} {r : α}, l[n]? = some r → (r :: l.eraseIdx n).Perm l
  | a :: t, 0, r, h => by
    have h : a = r := by simpa using h
    subst h
    exact .refl _
  | a :: t, n + 1, r, h => (List.Perm.swap a r (t.eraseIdx n)).trans ((erase_perm (l := t) (by simpa using h)).cons a)
theorem lookA {f : Arr → Rp} : ∀ {ls : List Arr}, (ls.map (·.m)).Nodup → ∀ {a : Arr}, a ∈ ls → lookI a.m (ls.map fun a => (a.m, f a)) = some (f a)
  | b :: t, h, a, ha => by
    rw [List.map_cons] at h
    obtain ⟨h1, h2⟩ := List.nodup_cons.mp h
    unfold lookI
    rw [List.map_cons, List.lookup_cons]
    rcases List.mem_cons.mp ha with e | e
    · subst e; simp
    · have ne : ¬ a.m = b.m := fun z => h1 (z ▸ List.mem_map.mpr ⟨a, e, rfl⟩)
      have : (a.m == b.m) = false := beq_eq_false_iff_ne.mpr ne
      rw [this]
      exact lookA (f := f) h2 e
theorem by_marks {f : Arr → Rp} {ls : List Arr} (h : (ls.map (·.m)).Nodup) : ls.map (fun a => (a.m, f a)) = (ls.map (·.m)).map fun m => (m, f (arrOf ls m)) := by
  rw [List.map_map]
  refine List.map_congr_left fun a ha => ?_
  show _ = (a.m, f (arrOf ls a.m))
  rw [arrOf_mem h ha]
section
variable {P : Program} {w : World} {K : PySem.W.Frag} {mg : Str → Option Value} {base : Heap}
abbrev spMixed : Sp := spF (fun (x : Addr × List Rp) _ => x.2.length ≤ 1000) (fun x => [rV (.ref x.1), rLst x.2]) (fun x => [(x.1, .dice)]) (fun x => [(x.1, .dice)]) (fun x => rEx (fun ys : List Rp => ys.Perm x.2) rLst)
theorem sc_law_mixed : FnScope ["_law_dice_here", "_law_items", "_law_left", "_law_turn"] ["_law_dice_here", "_law_items"] (defScope s_law_mixed) := ⟨rfl, rfl, rfl, by decide +kernel, rfl, by decide +kernel, by decide +kernel⟩
theorem cl_law_mixed (T : Tx P w K mg base) : Cl P w K mg base 2 "_law_mixed" spMixed := by
  obtain ⟨fd, F⟩ := T.def_ di_law_mixed
  refine ⟨_, T.glo fi_glo_law_mixed, F.kp, fnR_of F sc_law_mixed (fun _ => rfl) (fun _ _ _ _ _ _ us hl => match us, hl with | [_, _], _ => rfl) fun cdv A outer s H0 vs Q E hr z L G hp k S => ?_⟩
  have c_law_roll := cl_law_roll T
  obtain ⟨a, rs⟩ := z
  have h1 : rs.length ≤ 1000 := hp
  refine ⟨_, (pss_cons (ps_set (i := 2) sc_law_mixed.nd rfl (Or.inr rfl) (pe_callTy (T := "list") (call_listK (K := K)) (by rfl) (T.free fi_free_list) (by decide +kernel) (pa_cons (pv 1) pa_nil)))
    (pss_one (ps_ret (pe_lc (own := [("_law_turn", 3)]) rfl sc_law_mixed.nd (pi_range1 (by rfl) (T.free fi_free_range) (pa_cons (pe_callB (id := "len") (call_lenK (K := K)) (by rfl) (T.free fi_free_len) (by decide +kernel) (pa_cons (pv 1) pa_nil)) pa_nil)) (blkOk_by (own := [("_law_turn", 3)]) (N := ["_law_dice_here", "_law_items", "_law_left", "_law_turn"]) (sc := defScope s_law_mixed) (by decide +kernel)) (fun _ _ _ _ _ => (pg_name (i := 3) sc_law_mixed.nd rfl (Or.inl rfl) (Or.inr rfl))) (fun _ _ _ _ _ => pts_nil) (fun _ _ _ _ _ => (pe_bmK (K := K) PySem.F.plainAttrs_list PySem.F.slot_list_pop PySem.F.type_list_pop mt_popAt (pv 2) (pa_cons (pe_callR c_law_roll hr (by decide) (by rfl) (pa_cons (pv 0) (pa_cons (pe_callB (id := "len") (call_lenK (K := K)) (by rfl) (T.free fi_free_len) (by decide +kernel) (pa_cons (pv 2) pa_nil)) pa_nil))) pa_nil))))))), ?_⟩
  try dsimp only [L2.cxOf]
  refine st_listM (i := 2) (rs := rs) (ea_cons (ev_var rfl) ea_nil) S fun d σ1 G1 H1 e1 S1 => ?_
  dsimp only
  refine st_ret (r := rEx (fun ys : List Rp => ys.Perm rs) rLst) (ms1 := [(a, .dice)]) (fun σ G H S Q kk => ?_) S1 fun v G' H' e S' hv => k _ _ G' H' S' v hv
  refine ev_lcY (γ := Unit) (ι := List Rp) (P := fun _ => True) (mf := fun rem => [(d, .lst rem), (a, .dice)]) (fun _ i rem ys => ys.length = i ∧ rem.length + i = rs.length ∧ (ys ++ rem).Perm rs) rs (ei_ix (ei_rng1 (m := (rs.length : Int)) (n := rs.length) (ea_cons (ev_cb (ea_cons (ev_var rfl) ea_nil) rc_lenL) ea_nil) (by omega) (by omega) (by omega))) (fun _ _ => by rw [List.length_map, List.length_range]; omega) (fun _ _ => ⟨rfl, rfl, .refl _⟩) (fun _ i r rem ys _ hr ⟨hl, hl2, hp⟩ => ⟨_, gm_name (by simp), fun B σ G H S Qy ky => ?_⟩) S fun _ rem ys v G' H' _ ⟨hl, hl2, hp⟩ e S' hv => ?_
  · have hi : i < rs.length := by
      have := (List.getElem?_eq_some_iff.mp hr).1
      rw [List.length_map, List.length_range] at this
      exact this
    refine ev_popAt (i := 0) (j := 0) (rs := rem) (ev_var rfl) (ea_cons (ev_callD (a, (rem.length : Int)) 1 (ea_cons (ev_var rfl) (ea_cons (ev_cb (ea_cons (ev_var rfl) ea_nil) (rc_lenM (j := 0) rfl)) ea_nil)) ⟨by show (0 : Int) < (rem.length : Int); omega, by show (rem.length : Int) ≤ 100000; omega⟩ rfl rfl rfl) ea_nil) ⟨0, _, rfl⟩ rfl (by omega) σ G H S _ fun n r2 hn v G' H' e S' hv => ?_
    have hlt : n < rem.length := (List.getElem?_eq_some_iff.mp hn).1
    refine ky v r2 (rem.eraseIdx n) G' H' ⟨by rw [List.length_append, hl]; rfl, by rw [List.length_eraseIdx, if_pos hlt]; omega, ?_⟩ e S' hv
    have q : (r2 :: rem.eraseIdx n).Perm rem := erase_perm hn
    rw [List.append_assoc]
    exact (q.append_left ys).trans hp
  · rw [List.length_map, List.length_range] at hl2
    have : rem = [] := List.length_eq_zero_iff.mp (by omega)
    subst this
    rw [List.append_nil] at hp
    exact kk v G' H' e S'.forget ⟨ys, hp, hv⟩
/-! ### moves -/
theorem oV_eq (a b : Option Int) : decide (oV a = oV b) = decide (a = b) := by
  cases a <;> cases b <;> simp [oV]
theorem oV_scal (a b : Option Int) : scal (oV a) (oV b) = true := by
  cases a <;> cases b <;> rfl
abbrev spMoves : Sp := spP (fun (x : List Ent × Int) _ => x.1.length ≤ 100) (fun x => [rHist x.1, rI x.2]) (fun x => rN_ (mvs x.1 x.2))
theorem sc_law_moves : FnScope ["_law_history", "_law_mark", "_law_places", "_law_entry_here", "_law_at"] ["_law_history", "_law_mark"] (defScope s_law_moves) := ⟨rfl, rfl, rfl, by decide +kernel, rfl, by decide +kernel, by decide +kernel⟩
theorem cl_law_moves (T : Tx P w K mg base) : Cl P w K mg base 1 "_law_moves" spMoves := by
  obtain ⟨fd, F⟩ := T.def_ di_law_moves
  refine ⟨_, T.glo fi_glo_law_moves, F.kp, fnR_of F sc_law_moves (fun _ => rfl) (fun _ _ _ _ _ _ us hl => match us, hl with | [_, _], _ => rfl) fun cdv A outer s H0 vs Q E hr z L G hp k S => ?_⟩
  obtain ⟨h, m⟩ := z
  have h1 : h.length ≤ 100 := hp
  refine ⟨_, (pss_cons (ps_set (i := 2) sc_law_moves.nd rfl (Or.inr rfl) (pe_lc (own := [("_law_entry_here", 3)]) rfl sc_law_moves.nd (pi_listK (K := K) (pv 0)) (blkOk_by (own := [("_law_entry_here", 3)]) (N := ["_law_history", "_law_mark", "_law_places", "_law_entry_here", "_law_at"]) (sc := defScope s_law_moves) (by decide +kernel)) (fun _ _ _ _ _ => (pg_name (i := 3) sc_law_moves.nd rfl (Or.inl rfl) (Or.inr rfl))) (fun _ _ _ _ _ => (pts_one (pt_cmp (pc_din (hu_of hr) (pv 1) (pe_ix (ix_tupK (K := K)) (pv 3) pe_int (fun _ _ => rfl)))))) (fun _ _ _ _ _ => (pe_dget (hu_of hr) (pe_ix (ix_tupK (K := K)) (pv 3) pe_int (fun _ _ => rfl)) (pv 1) (fun _ _ => rfl)))))
    (pss_one (ps_ret (pe_callB (id := "len") (call_lenK (K := K)) (by rfl) (T.free fi_free_len) (by decide +kernel) (pa_cons (pe_lc (own := [("_law_at", 4)]) rfl sc_law_moves.nd (pi_range1 (by rfl) (T.free fi_free_range) (pa_cons (pe_op op_sub (pe_callB (id := "len") (call_lenK (K := K)) (by rfl) (T.free fi_free_len) (by decide +kernel) (pa_cons (pv 2) pa_nil)) pe_int) pa_nil)) (blkOk_by (own := [("_law_at", 4)]) (N := ["_law_history", "_law_mark", "_law_places", "_law_entry_here", "_law_at"]) (sc := defScope s_law_moves) (by decide +kernel)) (fun _ _ _ _ _ => (pg_name (i := 4) sc_law_moves.nd rfl (Or.inl rfl) (Or.inr rfl))) (fun _ _ _ _ _ => (pts_one (pt_cmpR op_ne (pe_ix (ix_listK (K := K)) (pv 2) (pv 4) (fun _ _ => rfl)) (pe_ix (ix_listK (K := K)) (pv 2) (pe_op op_add (pv 4) pe_int) (fun _ _ => rfl)) (nomark _)))) (fun _ _ _ _ _ => (pv 4))) pa_nil))))), ?_⟩
  try dsimp only [L2.cxOf]
  refine st_setP (i := 2) (rLst ((plcs h m).map rOpt)) ?_ S fun σ1 G1 H1 e1 S1 => ?_
  · refine ev_is (ev_lc h (f := rEnt) (e := fun e => rOpt (plc e m)) (b := fun e => decide (m ∈ marks e.ls)) (ei_list (ev_var rfl)) (by omega) (fun e he => gm_name (by simp)) (fun e he B => ?_) fun e he hb B => ?_) ?_
    · exact et_b (et_B (ev_din (ev_var rfl) (ev_op (ev_is (ev_var rfl) (show rEnt e = rTup [rLst (e.ps.map rP), rB e.se, rLet e.ls, rDct ((marks e.ls).map fun m => (m, rOpt (plc e m)))] from rfl)) ev_c rv_ixT3))) ((look_map (g := fun m => m) (f := fun m => rOpt (plc e m))).trans (by rw [List.map_id' (marks e.ls)]))
    · exact ev_dget (ev_op (ev_is (ev_var rfl) (show rEnt e = rTup [rLst (e.ps.map rP), rB e.se, rLet e.ls, rDct ((marks e.ls).map fun m => (m, rOpt (plc e m)))] from rfl)) ev_c rv_ixT3) (ev_var rfl) (look_fn (f := fun m => rOpt (plc e m)) (of_decide_eq_true hb))
    · unfold plcs; rw [List.map_map]; rfl
  dsimp only
  have pl : (plcs h m).length ≤ 100 := by
    unfold plcs
    rw [List.length_map]
    exact Nat.le_trans (List.length_filter_le _ _) h1
  generalize hq : plcs h m = l at *
  refine st_retP (rN_ (mvs h m)) ?_ S1 fun v G' H' e S' hv => k _ _ G' H' S' v hv
  refine ev_is (ev_cb (ea_cons (ev_lc (List.range (l.length - 1)) (f := fun i : Nat => rI (i : Int)) (e := fun i : Nat => rI (i : Int)) (b := fun i => !decide (l.getD i none = l.getD (i + 1) none)) (ei_rng1 (m := ((l.map rOpt).length : Int) - 1) (n := l.length - 1) (ea_cons (ev_op (ev_cb (ea_cons (ev_var rfl) ea_nil) rc_lenL) ev_c rv_I0) ea_nil) (by rw [List.length_map]; omega) (by omega) (by omega)) (by rw [List.length_range]; omega) (fun i hi => gm_name (by simp)) (fun i hi B => ?_) fun i hi hb B => ev_var rfl) ea_nil) rc_lenL) ?_
  · have hi : i < l.length - 1 := List.mem_range.mp hi
    have at_ : ∀ j, j < l.length → (l.map rOpt)[j]? = some (rV (oV (l.getD j none))) := fun j hj => by
      rw [List.getElem?_map, List.getElem?_eq_getElem hj]
      simp [List.getD, List.getElem?_eq_getElem hj, rOpt]
    refine et_b (et_val (ev_op (ev_op (ev_var rfl) (ev_var rfl) (rv_ixL (k := i) rfl (at_ i (by omega)))) (ev_op (ev_var rfl) (ev_op (ev_var rfl) ev_c rv_I0) (rv_ixL (k := i + 1) rfl (at_ (i + 1) (by omega)))) (rv_ne (oV_scal _ _)))) ?_
    rw [oV_eq]
  · rw [List.length_map]
    unfold mvs
    rw [hq, chg_count]
end
end K62
set_option maxHeartbeats 4000000
/-! K62Dp: the law's page, the law's entry. -/
namespace K62
open PySem PySem.Spec PyProof.Rows L2
local macro_rules | `(tactic| walk_at "ev") => `(tactic| repeat' (first
  | ((with_reducible apply ev_var); exact rfl)
  | with_reducible exact ev_c
  | with_reducible exact ea_nil
  | with_reducible exact et_yes
  | with_reducible exact rv_I0
  | with_reducible exact eo_none
  | with_reducible apply eo_some
  | with_reducible apply ea_cons
  | with_reducible apply ev_op
  | (with_reducible apply ev_andV <;> try intro _)
  | (with_reducible apply ev_orV <;> try intro _)
  | with_reducible apply ev_notV
  | with_reducible apply ev_tup
  | with_reducible apply ev_lst
  | with_reducible apply ev_neg
  | with_reducible apply ev_cb
  | with_reducible apply et_B
  | with_reducible apply et_val
  | with_reducible apply et_not
  | (with_reducible apply et_and <;> try intro _)
  | (with_reducible apply et_or <;> try intro _)
  | with_reducible apply ev_call
  | with_reducible apply ev_fld
  | with_reducible exact cls_Cutter (by assumption)
  | with_reducible exact cls_Rule (by assumption)
  | with_reducible exact cls_Page (by assumption)
  | with_reducible exact cls_Inbox (by assumption)
  | with_reducible exact na_parts (by assumption)
  | with_reducible exact na_tables (by assumption)
  | with_reducible exact na_whole (by assumption)
  | with_reducible exact na_cutter (by assumption)
  | with_reducible exact na_sees (by assumption)
  | with_reducible exact na_rule (by assumption)
  | with_reducible exact na_pmarks (by assumption)
  | with_reducible exact na_letters (by assumption)
  | with_reducible exact na_bound (by assumption)
  | with_reducible exact na_shown (by assumption)
  | with_reducible exact na_moves (by assumption)
  | with_reducible exact na_near (by assumption)
  | with_reducible exact na_groups (by assumption)
  | with_reducible exact na_pages (by assumption)
  | with_reducible exact na_version (by assumption)
  | with_reducible exact na_marks (by assumption)
  | with_reducible exact isi_str (by assumption)
  | with_reducible exact isi_int (by assumption)
  | with_reducible exact isi_intbool (by assumption)
  | with_reducible exact isi_bool (by assumption)
  | with_reducible exact isi_tup (by assumption)
  | with_reducible exact isi_Cutter (by assumption)
  | with_reducible exact isi_Rule (by assumption)
  | with_reducible exact isi_Inbox (by assumption)
  | with_reducible exact rc_lenT
  | with_reducible exact rc_lenL
  | with_reducible apply rc_lenS
  | with_reducible exact rc_abs
  | with_reducible exact rc_max
  | with_reducible exact rc_min
  | with_reducible exact rc_int
  | with_reducible exact rc_intB
  | with_reducible exact rv_inSign
  | with_reducible exact rv_inT
  | with_reducible exact rv_inL
  | with_reducible exact rv_ninL
  | with_reducible exact rv_ixT0
  | with_reducible exact rv_ixT1
  | with_reducible exact rv_ixT2
  | with_reducible exact rv_ixT3
  | with_reducible exact rv_ixL0
  | with_reducible exact rv_ixL1
  | with_reducible exact rv_ixL2))
theorem comp_le {mm : List Int} {ad : Int → Int → Bool} {s : Int} : (comp mm ad s).length ≤ mm.length := List.length_filter_le _ _
theorem grp_step {mm : List Int} {ad : Int → Int → Bool} {m : Int} {t known : List Int} : grp mm ad (m :: t) known = if m ∈ known then grp mm ad t known else comp mm ad m :: grp mm ad t (known ++ comp mm ad m) := rfl
theorem drop_at {α : Type} {l : List α} {i : Nat} {x : α} (h : l[i]? = some x) : l.drop i = x :: l.drop (i + 1) := by
  obtain ⟨h1, h2⟩ := List.getElem?_eq_some_iff.mp h
  rw [List.drop_eq_getElem_cons h1, h2]
theorem take_at {α : Type} {l : List α} {i : Nat} {x : α} (h : l[i]? = some x) : l.take (i + 1) = l.take i ++ [x] := by rw [List.take_add_one, h]; rfl
theorem not_in_take {l : List Int} (h : l.Nodup) {i : Nat} {x : Int} (hx : l[i]? = some x) : x ∉ l.take i := fun m => by
  have e := List.take_append_drop i l
  rw [drop_at hx] at e
  rw [← e] at h
  exact (List.nodup_append.mp h).2.2 x m x List.mem_cons_self rfl
theorem okLs_small {ls : List Arr} (h : okLs ls) : (marks ls).length ≤ 12 := by rw [marks_length]; exact h.len
section
variable {P : Program} {w : World} {K : PySem.W.Frag} {mg : Str → Option Value} {base : Heap}
noncomputable abbrev rPlaces (e : Ent) : Rp := rDct ((marks e.ls).map fun m => (m, rOpt (plc e m)))
noncomputable abbrev spPage : Sp := spP (fun (e : Ent) _ => okE e) (fun e => [rLst (e.ps.map rP), rB e.se, rDct (e.ls.map fun a => (a.m, rInts a.c))]) (fun e => rLst [rBd (marks e.ls) (bd e), rPlaces e, rLst ((groups e).map rInts)])
structure PgI (e : Ent) (i : Nat) (gs : List (List Int)) (kn : List Int) : Prop where
  g : groups e = gs ++ grp (marks e.ls) (adj e.se (bd e)) ((marks e.ls).drop i) kn
  kl : kn.length ≤ 12 * i
  gl : gs.length ≤ i
theorem sc_law_page : FnScope ["_law_parts_here", "_law_sees", "_law_letters", "_law_marks", "_law_bound", "_law_mark", "_law_places", "_law_groups_here", "_law_known", "_law_came", "_law_one", "_law_group"] ["_law_parts_here", "_law_sees", "_law_letters"] (defScope s_law_page) := ⟨rfl, rfl, rfl, by decide +kernel, rfl, by decide +kernel, by decide +kernel⟩
theorem cl_law_page (T : Tx P w K mg base) : Cl P w K mg base 3 "_law_page" spPage := by
  obtain ⟨fd, F⟩ := T.def_ di_law_page
  refine ⟨_, T.glo fi_glo_law_page, F.kp, fnR_of F sc_law_page (fun _ => rfl) (fun _ _ _ _ _ _ us hl => match us, hl with | [_, _, _], _ => rfl) fun cdv A outer s H0 vs Q E hr e L G hp k S => ?_⟩
  have c_law_kept := cl_law_kept T
  have c_law_reached := cl_law_reached T
  have ho : okE e := hp
  have hnd := ho.ls.nd
  have h12 := okLs_small ho.ls
  have hml : (e.ls.map (·.m)).length ≤ 12 := by rw [List.length_map]; exact ho.ls.len
  have bl : ∀ m ∈ marks e.ls, (bd e m).length ≤ 9 := fun m hm => bd_len ho.ls m hm
  refine ⟨_, (pss_cons (ps_set (i := 3) sc_law_page.nd rfl (Or.inl rfl) (pe_callB (id := "sorted") (call_sortedDI rfl) (by rfl) (T.free fi_free_sorted) (by decide +kernel) (pa_cons (pv 2) pa_nil)))
    (pss_cons (ps_set (i := 4) sc_law_page.nd rfl (Or.inl rfl) (pe_callTy (T := "dict") (call_dictPK (K := K) rfl) (by rfl) (T.free fi_free_dict) (by decide +kernel) (pa_cons (pe_lc (own := [("_law_mark", 5)]) rfl sc_law_page.nd (pi_listK (K := K) (pv 3)) (blkOk_by (own := [("_law_mark", 5)]) (N := ["_law_parts_here", "_law_sees", "_law_letters", "_law_marks", "_law_bound", "_law_mark", "_law_places", "_law_groups_here", "_law_known", "_law_came", "_law_one", "_law_group"]) (sc := defScope s_law_page) (by decide +kernel)) (fun _ _ _ _ _ => (pg_name (i := 5) sc_law_page.nd rfl (Or.inl rfl) (Or.inr rfl))) (fun _ _ _ _ _ => pts_nil) (fun _ _ _ _ _ => (pe_tup (pa_cons (pv 5) (pa_cons (pe_callR c_law_kept hr (by decide) (by rfl) (pa_cons (pv 0) (pa_cons (pe_dget (hu_of hr) (pv 2) (pv 5) (fun _ _ => rfl)) pa_nil))) pa_nil))))) pa_nil)))
    (pss_cons (ps_par3 (i := 6) (j := 7) (l := 8) rfl sc_law_page.nd rfl rfl rfl (by decide) (by decide) (by decide) rfl rfl rfl (pa_cons pe_dnewK (pa_cons (pe_lst pa_nil) (pa_cons (pe_lst pa_nil) pa_nil))) rfl)
    (pss_cons (ps_for PassesOwn.never rfl (pi_listK (K := K) (pv 3)) (pg_name (i := 5) sc_law_page.nd rfl (Or.inl rfl))
      (pss_cons (ps_setLc (i := 9) (own := [("_law_one", 10)]) rfl sc_law_page.nd rfl rfl (sw_true rfl rfl rfl (by decide +kernel)) (pi_tupK (K := K) (pe_dget (hu_of hr) (pv 4) (pv 5) (fun _ _ => rfl))) (blkOk_by (own := [("_law_one", 10)]) (N := ["_law_parts_here", "_law_sees", "_law_letters", "_law_marks", "_law_bound", "_law_mark", "_law_places", "_law_groups_here", "_law_known", "_law_came", "_law_one", "_law_group"]) (sc := defScope s_law_page) (by decide +kernel)) (fun _ _ _ _ _ => (pg_name (i := 10) sc_law_page.nd rfl (Or.inl rfl) (Or.inr rfl))) (fun _ _ _ _ _ => (pts_one (pt_cmp (pc_din (hu_of hr) (pv 10) (pv 2))))) (fun _ _ _ _ _ => (pv 10)))
    (pss_cons (ps_dput (hu_of hr) (pv 6) (pv 5) (pe_ifExp (pt_cmpR (op_neDK (K := K) hr.units) (pv 9) (pe_lst pa_nil) (nomark _)) (pe_ix (ix_listK (K := K)) (pv 9) (pe_un un_neg pe_int) (fun _ _ => rfl)) pe_non) rfl)
    (pss_one (ps_if (pt_cmpR (op_notInK (K := K)) (pv 5) (pv 8) (by rfl)) (pss_cons (ps_set (i := 11) sc_law_page.nd rfl (Or.inl rfl) (pe_callR c_law_reached hr (by decide) (by rfl) (pa_cons (pv 4) (pa_cons (pv 1) (pa_cons (pv 3) (pa_cons (pv 5) pa_nil))))))
    (pss_cons (ps_set (i := 8) sc_law_page.nd rfl (Or.inl rfl) (pe_op op_cat (pv 8) (pv 11)))
    (pss_one (ps_expr (pe_bmK (K := K) PySem.F.plainAttrs_list PySem.F.slot_list_append PySem.F.type_list_append mt_append (pv 7) (pa_cons (pe_tupleK (K := K) (by rfl) (T.free fi_free_tuple) (pv 11)) pa_nil)))))) pss_nil)))))
    (pss_one (ps_ret (pe_lst (pa_cons (pv 4) (pa_cons (pv 6) (pa_cons (pv 7) pa_nil)))))))))), ?_⟩
  try dsimp only [L2.cxOf]
  refine st_setP (i := 3) (rLst ((marks e.ls).map rI)) ?_ S fun σ1 G1 H1 e1 S1 => ?_
  · refine ev_imp (ev_cb (ea_cons (ev_is (ev_var rfl) (congrArg rDct (by_marks (f := fun a => rInts a.c) hnd))) ea_nil) (rc_sortedD (by omega))) fun v G ⟨ns, ⟨p1, p2⟩, hv⟩ => ?_
    rw [marks_uniq p1 p2] at hv
    exact hv
  dsimp only
  refine st_setP (i := 4) (rBd (marks e.ls) (bd e)) ?_ S1 fun σ2 G2 H2 e2 S2 => ?_
  · refine ev_cb (ea_cons (ev_is (ev_lcA (marks e.ls) (f := rI) (e := fun m => rTup [rI m, rInts (bd e m)]) (ei_list (ev_var rfl)) (by omega) (fun m hm => gm_name (by simp)) fun m hm B => ?_) ?_) ea_nil) (rc_dictN (ks := (marks e.ls).map fun m => (m, rInts (bd e m))) ?_)
    · obtain ⟨a1, a2⟩ := arrOf_in (mem_marks.mp hm)
      refine ev_tup (ea_cons (ev_var rfl) (ea_cons (ev_call (⟨e.ps, (arrOf e.ls m).c, false⟩ : KpX) (ea_cons (ev_var rfl) (ea_cons (ev_dget (ev_var rfl) (ev_var rfl) ?_) ea_nil)) ⟨ho.ps.1, ho.ps.2, Nat.le_trans (ho.ls.ok _ a1).cl (by omega)⟩) ea_nil)) (by simp)
      have z := lookA (f := fun a => rInts a.c) hnd a1
      rw [a2] at z
      exact z
    · rw [List.map_map]; rfl
    · rw [List.map_map]
      exact (List.map_id' (marks e.ls)).symm ▸ marks_nd hnd
  dsimp only
  refine st_par3D S2 fun d d2 σ3 G3 H3 e3 S3 => ?_
  dsimp only
  refine st_for (ι := Nat × List (List Int) × List Int) (ei_list (ev_var rfl)) S3 (fun i x => x.1 = i ∧ PgI e i x.2.1 x.2.2)
    (fun x => [some (rLst (e.ps.map rP)), some (rB e.se), some (rDct (e.ls.map fun (a : Arr) => (a.m, rInts a.c))), some (rLst ((marks e.ls).map rI)), some (rBd (marks e.ls) (bd e)), none, some (rV (.ref d)), some (rV (.ref d2)), some (rLst (x.2.2.map rI)), none, none, none])
    (fun x => [(d2, .lst (x.2.1.map rInts)), (d, .dct (((marks e.ls).take x.1).map fun m => (m, rOpt (plc e m))))]) (0, [], []) ⟨rfl, rfl, by simp, by simp⟩ (fun B σ G H S => S) (fun B1 G4 H4 i r x σ5 G5 H5 e4 hr hx e5 hl un sm S5 => ?_) (fun x σ5 G5 H5 hx e4 S5 => ?_)
  · obtain ⟨i', gs, kn⟩ := x
    obtain ⟨rfl, hI⟩ := hx
    dsimp only at hI S5 hr
    rw [List.getElem?_map] at hr
    cases hq : (marks e.ls)[i']? with
    | none => rw [hq] at hr; cases hr
    | some m =>
      rw [hq] at hr
      cases hr
      have hm : m ∈ marks e.ls := List.mem_of_getElem? hq
      have hlt : i' < (marks e.ls).length := (List.getElem?_eq_some_iff.mp hq).1
      have hb : lookI m ((marks e.ls).map fun m => (m, rInts (bd e m))) = some (rInts (bd e m)) := look_fn (f := fun m => rInts (bd e m)) hm
      have bm := bl m hm
      have hg := hI.g
      rw [drop_at hq, grp_step] at hg
      have kl := hI.kl
      have gl := hI.gl
      refine ⟨_, [5], gm_name (by simp), fun σ6 G6 H6 e6 S6 => ?_⟩
      refine st_setP (i := 9) (rLst (((bd e m).filter fun y => decide (y ∈ marks e.ls)).map rI)) ?_ S6 fun σ7 G7 H7 e7 S7 => ?_
      · refine ev_lc (bd e m) (f := rI) (e := rI) (b := fun y => decide (y ∈ marks e.ls)) (ei_tup (ev_dget (ev_var rfl) (ev_var rfl) hb)) (by omega) (fun y hy => gm_name (by simp)) (fun y hy B => ?_) fun y hy hb B => ev_var rfl
        refine et_b (et_B (ev_din (ev_var rfl) (ev_var rfl))) ?_
        rw [look_map]
        exact decide_eq_decide.mpr mem_marks.symm
      dsimp only
      refine st_dput (r := rOpt (plc e m)) (k := m) (j := 1) (ms3 := [(d2, .lst (gs.map rInts)), (d, .dct (((marks e.ls).take i').map fun m => (m, rOpt (plc e m))))]) (ks := ((marks e.ls).take i').map fun m => (m, rOpt (plc e m))) ?_ (ev_var rfl) (ev_var rfl) rfl (by rw [List.length_map, List.length_take]; omega) S7 fun G8 H8 e8 S8 => ?_
      · refine ev_if (et_val (ev_op (ev_var rfl) ev_nil rv_neNil)) (fun hne => ?_) (fun hne => ?_)
        · have hc : ((bd e m).filter fun y => decide (y ∈ marks e.ls)) ≠ [] := by
            intro z; rw [z] at hne; cases hne
          have hl := List.dropLast_concat_getLast hc
          have hp : plc e m = some (((bd e m).filter fun y => decide (y ∈ marks e.ls)).getLast hc) := by
            unfold plc
            exact List.getLast?_eq_some_getLast hc
          rw [hp]
          have sv : (((bd e m).filter fun y => decide (y ∈ marks e.ls)).map rI) = ((((bd e m).filter fun y => decide (y ∈ marks e.ls)).dropLast).map rI) ++ [rI (((bd e m).filter fun y => decide (y ∈ marks e.ls)).getLast hc)] := by
            conv => lhs; rw [← hl]
            rw [List.map_append]
            rfl
          exact ev_op (ev_is (ev_var rfl) (congrArg rLst sv)) (ev_neg ev_c) rv_ixLast
        · have hc : ((bd e m).filter fun y => decide (y ∈ marks e.ls)) = [] := by
            cases q : (bd e m).filter fun y => decide (y ∈ marks e.ls) with
            | nil => rfl
            | cons a t => rw [q] at hne; cases hne
          have hp : plc e m = none := by unfold plc; rw [hc]; rfl
          rw [hp]
          exact ev_c
      dsimp only
      have pn : putI m (rOpt (plc e m)) (((marks e.ls).take i').map fun m => (m, rOpt (plc e m))) = ((marks e.ls).take (i' + 1)).map fun m => (m, rOpt (plc e m)) := by
        rw [putI_new, take_at hq, List.map_append]
        · rfl
        · intro p hp z
          obtain ⟨m', h1, h2⟩ := List.mem_map.mp hp
          subst h2
          have z : m' = m := z
          subst z
          exact not_in_take (marks_nd hnd) hq h1
      rw [pn] at S8
      refine st_ifP (!decide (m ∈ kn)) (et_val (ev_op (ev_var rfl) (ev_var rfl) rv_ninL)) S8 fun G9 H9 e9 S9 => ⟨fun hb => ?_, fun hb => ?_⟩
      · have hn : m ∉ kn := by simpa using hb
        rw [if_neg hn] at hg
        have cl : (comp (marks e.ls) (adj e.se (bd e)) m).length ≤ 12 := Nat.le_trans comp_le h12
        refine st_setP (i := 11) (rLst ((comp (marks e.ls) (adj e.se (bd e)) m).map rI)) (ev_call (⟨marks e.ls, bd e, e.se, m⟩ : RcX) (ea_cons (ev_var rfl) (ea_cons (ev_var rfl) (ea_cons (ev_var rfl) (ea_cons (ev_var rfl) ea_nil)))) ⟨marks_lt hnd, hm, by show (marks e.ls).length ≤ 100; omega, fun m' hm' => Nat.le_trans (bl m' hm') (by omega)⟩) S9 fun σ10 G10 H10 e10 S10 => ?_
        dsimp only
        refine st_setP (i := 8) (rLst ((kn ++ comp (marks e.ls) (adj e.se (bd e)) m).map rI)) (ev_is (ev_op (ev_var rfl) (ev_var rfl) (rv_cat (by rw [List.length_map, List.length_map]; show kn.length + _ ≤ _; omega))) (by rw [List.map_append])) S10 fun σ11 G11 H11 e11 S11 => ?_
        dsimp only
        refine st_drop (ev_append (j := 0) (rs := gs.map rInts) (r := rInts (comp (marks e.ls) (adj e.se (bd e)) m)) (ev_var rfl) (ea_cons (ev_tupOfL (ev_var rfl)) ea_nil) ⟨0, _, rfl⟩ rfl (by rw [List.length_map]; omega)) S11 fun G12 H12 e12 S12 => ?_
        refine ⟨(i' + 1, gs ++ [comp (marks e.ls) (adj e.se (bd e)) m], kn ++ comp (marks e.ls) (adj e.se (bd e)) m), G12, ⟨rfl, ⟨by rw [hg, List.append_assoc]; rfl, by rw [List.length_append]; omega, by rw [List.length_append]; simp; omega⟩⟩, ?_⟩
        dsimp only
        rw [List.map_append (l₁ := gs)]
        exact S12.weak (by repeat' constructor)
      · have hn : m ∈ kn := by simpa using hb
        rw [if_pos hn] at hg
        exact ⟨(i' + 1, gs, kn), G9, ⟨rfl, ⟨hg, by show kn.length ≤ _; omega, by show gs.length ≤ _; omega⟩⟩, S9.weak (by repeat' constructor)⟩
  · obtain ⟨i', gs, kn⟩ := x
    obtain ⟨rfl, hI⟩ := hx
    dsimp only at hI S5
    have hg := hI.g
    rw [List.length_map, List.drop_length] at hg
    have hg : groups e = gs := by rw [hg]; show gs ++ [] = gs; rw [List.append_nil]
    rw [List.length_map, List.take_length] at S5
    obtain ⟨G6, e6, S6⟩ := S5.freezeS (i := 7) ((S5.own _ List.mem_cons_self).resolve_left (by simp)) rfl
    obtain ⟨G7, e7, S7⟩ := S6.freezeS (i := 6) ((S6.own _ List.mem_cons_self).resolve_left (by simp)) rfl
    dsimp only
    refine st_retP _ (ev_lst (ea_cons (ev_var rfl) (ea_cons (ev_var rfl) (ea_cons (ev_var rfl) ea_nil))) (by simp)) S7 fun v G' H' e S' hv => k _ _ G' H' S' v ?_
    rw [hg]
    exact hv
noncomputable abbrev spEntry : Sp := spP (fun (e : Ent) L => okE e ∧ L = []) (fun e => [rLst (e.ps.map rP), rB e.se, rLet e.ls]) (fun e => rEnt e)
theorem sc_law_entry : FnScope ["_law_parts_here", "_law_sees", "_law_letters", "_law_rows_here", "_law_mark"] ["_law_parts_here", "_law_sees", "_law_letters"] (defScope s_law_entry) := ⟨rfl, rfl, rfl, by decide +kernel, rfl, by decide +kernel, by decide +kernel⟩
theorem cl_law_entry (T : Tx P w K mg base) : Cl P w K mg base 4 "_law_entry" spEntry := by
  obtain ⟨fd, F⟩ := T.def_ di_law_entry
  refine ⟨_, T.glo fi_glo_law_entry, F.kp, fnR_of F sc_law_entry (fun _ => rfl) (fun _ _ _ _ _ _ us hl => match us, hl with | [_, _, _], _ => rfl) fun cdv A outer s H0 vs Q E hr e L G hp k S => ?_⟩
  have c_law_page := cl_law_page T
  obtain ⟨ho, rfl⟩ := hp
  have hnd := ho.ls.nd
  have hlen := ho.ls.len
  refine ⟨_, (pss_cons (ps_set (i := 3) sc_law_entry.nd rfl (Or.inl rfl) (pe_callTy (T := "dict") (call_dictPK (K := K) rfl) (by rfl) (T.free fi_free_dict) (by decide +kernel) (pa_cons (pe_lock (pe_lc (own := [("_law_mark", 4)]) rfl sc_law_entry.nd (pi_keys (pv 2)) (blkOk_by (own := [("_law_mark", 4)]) (N := ["_law_parts_here", "_law_sees", "_law_letters", "_law_rows_here", "_law_mark"]) (sc := defScope s_law_entry) (by decide +kernel)) (fun _ _ _ _ _ => (pg_name (i := 4) sc_law_entry.nd rfl (Or.inl rfl) (Or.inr rfl))) (fun _ _ _ _ _ => pts_nil) (fun _ _ _ _ _ => (pe_tup (pa_cons (pv 4) (pa_cons (pe_ix (ix_tupK (K := K)) (pe_dget (hu_of hr) (pv 2) (pv 4) (fun _ _ => rfl)) pe_int (fun _ _ => rfl)) pa_nil)))))) pa_nil)))
    (pss_one (ps_ret (pe_tup (pa_cons (pv 0) (pa_cons (pv 1) (pa_cons (pv 2) (pa_cons (pe_ix (ix_listK (K := K)) (pe_callR c_law_page hr (by decide) (by rfl) (pa_cons (pv 0) (pa_cons (pv 1) (pa_cons (pv 3) pa_nil)))) pe_int (fun _ _ => rfl)) pa_nil)))))))), ?_⟩
  try dsimp only [L2.cxOf]
  refine st_setP (i := 3) (rDct (e.ls.map fun (a : Arr) => (a.m, rInts a.c))) ?_ S fun σ1 G1 H1 e1 S1 => ?_
  · refine ev_cb (ea_cons (ev_lock (turns_slot (i := 2) (r := rLet e.ls) (r' := fun d => rDctAt d (e.ls.map fun a => (a.m, rArr a))) rfl fun v G h => rDct_at h) (ms1' := fun _ => []) (r := rLst ((e.ls.map fun (a : Arr) => (a.m, rInts a.c)).map fun p => rTup [rI p.1, p.2])) (fun d B => ?_) (fun {B σ G H} d S => ?_)) ea_nil) (rc_dictN ?_)
    · refine ev_is (ev_lcA e.ls (f := fun a => rI a.m) (e := fun a => rTup [rI a.m, rInts a.c]) (ei_is (ei_keys (ev_var rfl)) (by rw [List.map_map]; rfl)) (by omega) (fun a ha => gm_name (by simp)) fun a ha B => ?_) (by rw [List.map_map]; rfl)
      exact ev_tup (ea_cons (ev_var rfl) (ea_cons (ev_op (ev_dget (r := rArr a) (ev_imp (ev_var rfl) fun v G h => rDctAt_to h) (ev_var rfl) (lookA (f := rArr) hnd ha)) ev_c rv_ixT2) ea_nil)) (by simp)
    · exact S.turn (i := 2) rfl fun v h => rDctAt_to h
    · rw [List.map_map]; exact hnd
  dsimp only
  refine st_retP (rEnt e) ?_ S1 fun v G' H' e S' hv => k _ _ G' H' S' v hv
  exact ev_tup (ea_cons (ev_var rfl) (ea_cons (ev_var rfl) (ea_cons (ev_var rfl) (ea_cons (ev_op (ev_call e (ea_cons (ev_var rfl) (ea_cons (ev_var rfl) (ea_cons (ev_var rfl) ea_nil))) ho) ev_c rv_ixL1) ea_nil)))) (by simp)
end
end K62
set_option maxHeartbeats 4000000
/-! K62Dq: arrivals drawn. -/
namespace K62
open PySem PySem.Spec PyProof.Rows L2
local macro_rules | `(tactic| walk_at "ev") => `(tactic| repeat' (first
  | ((with_reducible apply ev_var); exact rfl)
  | with_reducible exact ev_c
  | with_reducible exact ea_nil
  | with_reducible exact et_yes
  | with_reducible exact rv_I0
  | with_reducible exact eo_none
  | with_reducible apply eo_some
  | with_reducible apply ea_cons
  | with_reducible apply ev_op
  | (with_reducible apply ev_andV <;> try intro _)
  | (with_reducible apply ev_orV <;> try intro _)
  | with_reducible apply ev_notV
  | with_reducible apply ev_tup
  | with_reducible apply ev_lst
  | with_reducible apply ev_neg
  | with_reducible apply ev_cb
  | with_reducible apply et_B
  | with_reducible apply et_val
  | with_reducible apply et_not
  | (with_reducible apply et_and <;> try intro _)
  | (with_reducible apply et_or <;> try intro _)
  | with_reducible apply ev_call
  | with_reducible apply ev_fld
  | with_reducible exact cls_Cutter (by assumption)
  | with_reducible exact cls_Rule (by assumption)
  | with_reducible exact cls_Page (by assumption)
  | with_reducible exact cls_Inbox (by assumption)
  | with_reducible exact na_parts (by assumption)
  | with_reducible exact na_tables (by assumption)
  | with_reducible exact na_whole (by assumption)
  | with_reducible exact na_cutter (by assumption)
  | with_reducible exact na_sees (by assumption)
  | with_reducible exact na_rule (by assumption)
  | with_reducible exact na_pmarks (by assumption)
  | with_reducible exact na_letters (by assumption)
  | with_reducible exact na_bound (by assumption)
  | with_reducible exact na_shown (by assumption)
  | with_reducible exact na_moves (by assumption)
  | with_reducible exact na_near (by assumption)
  | with_reducible exact na_groups (by assumption)
  | with_reducible exact na_pages (by assumption)
  | with_reducible exact na_version (by assumption)
  | with_reducible exact na_marks (by assumption)
  | with_reducible exact isi_str (by assumption)
  | with_reducible exact isi_int (by assumption)
  | with_reducible exact isi_intbool (by assumption)
  | with_reducible exact isi_bool (by assumption)
  | with_reducible exact isi_tup (by assumption)
  | with_reducible exact isi_Cutter (by assumption)
  | with_reducible exact isi_Rule (by assumption)
  | with_reducible exact isi_Inbox (by assumption)
  | with_reducible exact rc_lenT
  | with_reducible exact rc_lenL
  | with_reducible apply rc_lenS
  | with_reducible exact rc_abs
  | with_reducible exact rc_max
  | with_reducible exact rc_min
  | with_reducible exact rc_int
  | with_reducible exact rc_intB
  | with_reducible exact rv_inSign
  | with_reducible exact rv_inT
  | with_reducible exact rv_inL
  | with_reducible exact rv_ninL
  | with_reducible exact rv_ixT0
  | with_reducible exact rv_ixT1
  | with_reducible exact rv_ixT2
  | with_reducible exact rv_ixT3
  | with_reducible exact rv_ixL0
  | with_reducible exact rv_ixL1
  | with_reducible exact rv_ixL2))
section
variable {B : Bs} {L : List Addr} {ctx : Ct} {ms : Ms} {σ : L2.St} {G H : Hp} {rs : List Rp} {r : Rp}
theorem al_snoc : ∀ {rs : List Rp} {r : Rp} {xs : List V} {G : Hp}, Al (rs ++ [r]) xs G → ∃ ys v, xs = ys ++ [v] ∧ Al rs ys G ∧ r.ok v G
  | [], r, xs, G, h => by
    obtain ⟨v, e, hv⟩ := al1 h
    exact ⟨[], v, e, .nil, hv⟩
  | q :: rs, r, xs, G, h => by
    rw [List.cons_append] at h
    cases h with
    | cons h t =>
      obtain ⟨ys, v, e, h1, h2⟩ := al_snoc t
      subst e
      exact ⟨_ :: ys, v, rfl, .cons h h1, h2⟩
theorem Sx.openL {α : Type} {P : α → Prop} {f : α → Rp} {a : Addr} {j : Nat} (S : Sx B L ctx ms σ G H) (hj : ms[j]? = some (a, .lst (rs ++ [rEx P f]))) : ∃ x, P x ∧ Sx B L ctx (ms.set j (a, .lst (rs ++ [f x]))) σ G H := by
  have c : CAt a G H (.lst (rs ++ [rEx P f])) := S.mem.at_ _ (List.mem_of_getElem? hj)
  cases c with
  | @lst _ xs h hal =>
    obtain ⟨ys, v, rfl, h1, x, px, hv⟩ := al_snoc hal
    have hu : upd H a (.lst (ys ++ [v])) = H := by
      funext b
      by_cases e : b = a
      · subst e; rw [upd_same, h]
      · rw [upd_ne e]
    have s := S.put (o := .lst (ys ++ [v])) (c' := .lst (rs ++ [f x])) hj (.lst upd_same (h1.app (.cons hv .nil)))
    rw [hu] at s
    exact ⟨x, px, s⟩
/-- an argument list's end with a drawn element -/
theorem ev_any {te : TE} {ms1 : Ms} {α : Type} {P : α → Prop} {f : α → Rp} (h : EvM B L te ctx ms r ms1) (hr : ∀ v G, r.ok v G → ∃ x, P x ∧ (f x).ok v G) : EvM B L te ctx ms (rEx P f) ms1 := ev_imp h hr
end
def ladder (st s0 : Int) (n : Nat) : List Int := (List.range n).map fun (i : Nat) => s0 + st * (i : Int)
theorem ladder_lt {st s0 : Int} {n : Nat} (h : 0 < st) : (ladder st s0 n).Pairwise (· < ·) := by
  unfold ladder
  rw [List.pairwise_map]
  refine List.pairwise_lt_range.imp fun {i j} hij => ?_
  have : st * (i : Int) < st * (j : Int) := Int.mul_lt_mul_of_pos_left (by omega) h
  omega
theorem ladder_at {st s0 : Int} {n i : Nat} (h : i < n) : (ladder st s0 n)[i]? = some (s0 + st * (i : Int)) := by
  unfold ladder
  rw [List.getElem?_map, List.getElem?_range h]
  rfl
structure okPool (As : List Arr) : Prop where
  ok : ∀ a ∈ As, okArr a
  nd : (As.map (·.m)).Nodup
  len : As.length ≤ 9
theorem names_ok {v : V} {G : Hp} (h : (rOne [rS "ann", rS "bob", rS "zzzzzzzz"]).ok v G) : ∃ z : Str, z ∈ (["ann", "bob", "eve", "zzzzzzzz"] : List Str) ∧ (rS z).ok v G := by
  obtain ⟨r, hr, hv⟩ := h
  simp only [List.mem_cons, List.not_mem_nil, or_false] at hr
  rcases hr with rfl | rfl | rfl
  · exact ⟨_, by simp, hv⟩
  · exact ⟨_, by simp, hv⟩
  · exact ⟨_, by simp, hv⟩
theorem rtup_ex {α : Type} {P : α → Prop} {f : α → Rp} {a c : Rp} {v : V} {G : Hp} (h : (rTup [a, rEx P f, c]).ok v G) : (rEx P fun x => rTup [a, f x, c]).ok v G := by
  obtain ⟨p, xs, e, hp, hal⟩ := h
  obtain ⟨v1, v2, v3, rfl, h1, ⟨x, px, h2⟩, h3⟩ := al3 hal
  exact ⟨x, px, p, _, e, hp, .cons h1 (.cons h2 (.cons h3 .nil))⟩
section
variable {P : Program} {w : World} {K : PySem.W.Frag} {mg : Str → Option Value} {base : Heap}
abbrev spAny : Sp := spF (fun (x : Addr × Nat) _ => x.2 ≤ 9) (fun x => [rV (.ref x.1), rN_ x.2]) (fun x => [(x.1, .dice)]) (fun x => [(x.1, .dice)]) (fun _ => rEx okPool fun As => rLst (As.map rArr))
structure PoI (st s0 : Int) (i : Nat) (As : List Arr) : Prop where
  ok : ∀ a ∈ As, okArr a
  nd : (As.map (·.m)).Nodup
  len : As.length ≤ i
  at_ : ∀ a ∈ As, ∃ j, j < i ∧ a.m = s0 + st * ((j : Nat) : Int)
theorem PoI.keep {st s0 : Int} {i : Nat} {As : List Arr} (p : PoI st s0 i As) : PoI st s0 (i + 1) As := ⟨p.ok, p.nd, by have := p.len; omega, fun a ha => by obtain ⟨j, h1, h2⟩ := p.at_ a ha; exact ⟨j, by omega, h2⟩⟩
theorem PoI.add {st s0 : Int} {i : Nat} {As : List Arr} (p : PoI st s0 i As) {a : Arr} (h : okArr a) (ha : a.m = s0 + st * ((i : Nat) : Int)) (hs : 0 < st) : PoI st s0 (i + 1) (As ++ [a]) := by
  refine ⟨fun b hb => ?_, ?_, by have := p.len; rw [List.length_append]; simp; omega, fun b hb => ?_⟩
  · rcases List.mem_append.mp hb with q | q
    · exact p.ok b q
    · rw [List.mem_singleton.mp q]; exact h
  · rw [List.map_append]
    refine List.nodup_append.mpr ⟨p.nd, by simp, fun x hx y hy e => ?_⟩
    obtain ⟨b, hb, e1⟩ := List.mem_map.mp hx
    obtain ⟨j, h1, h2⟩ := p.at_ b hb
    have hy : y = a.m := by simpa using hy
    have : st * (j : Int) < st * (i : Int) := Int.mul_lt_mul_of_pos_left (by omega) hs
    omega
  · rcases List.mem_append.mp hb with q | q
    · obtain ⟨j, h1, h2⟩ := p.at_ b q
      exact ⟨j, by omega, h2⟩
    · rw [List.mem_singleton.mp q]; exact ⟨i, by omega, ha⟩
theorem sc_law_any_arrivals : FnScope ["_law_dice_here", "_law_most", "_law_step", "_law_start", "_law_marks", "_law_found", "_law_at", "_law_mark", "_law_far", "_law_copy", "_law_one"] ["_law_dice_here", "_law_most"] (defScope s_law_any_arrivals) := ⟨rfl, rfl, rfl, by decide +kernel, rfl, by decide +kernel, by decide +kernel⟩
theorem cl_law_any_arrivals (T : Tx P w K mg base) : Cl P w K mg base 3 "_law_any_arrivals" spAny := by
  obtain ⟨fd, F⟩ := T.def_ di_law_any_arrivals
  refine ⟨_, T.glo fi_glo_law_any_arrivals, F.kp, fnR_of F sc_law_any_arrivals (fun _ => rfl) (fun _ _ _ _ _ _ us hl => match us, hl with | [_, _], _ => rfl) fun cdv A outer s H0 vs Q E hr z L G hp k S => ?_⟩
  have c_law_roll := cl_law_roll T
  have c_law_one_of := cl_law_one_of T
  obtain ⟨a, n⟩ := z
  have h9 : n ≤ 9 := hp
  have pw : CPowB 10 10 := .inl ⟨by decide, by decide, by decide⟩
  refine ⟨_, (pss_cons (ps_asg (pe_tup (pa_cons (pe_callR c_law_one_of hr (by decide) (by rfl) (pa_cons (pv 0) (pa_cons (pe_lst (pa_cons pe_int (pa_cons pe_int (pa_cons pe_int (pa_cons pe_int (pa_cons (pe_op op_powB pe_int pe_int) pa_nil)))))) pa_nil))) (pa_cons (pe_callR c_law_one_of hr (by decide) (by rfl) (pa_cons (pv 0) (pa_cons (pe_lst (pa_cons pe_int (pa_cons pe_int (pa_cons pe_int pa_nil)))) pa_nil))) pa_nil))) (pg_tupK (K := K) (n := 2) rfl (pgs_cons (pg_name (i := 2) sc_law_any_arrivals.nd rfl (Or.inr rfl)) (pgs_cons (pg_name (i := 3) sc_law_any_arrivals.nd rfl (Or.inr rfl)) pgs_nil))))
    (pss_cons (ps_par (i := 4) (j := 5) rfl sc_law_any_arrivals.nd rfl rfl (by decide) rfl rfl (pa_cons (pe_lc (own := [("_law_at", 6)]) rfl sc_law_any_arrivals.nd (pi_range1 (by rfl) (T.free fi_free_range) (pa_cons (pv 1) pa_nil)) (blkOk_by (own := [("_law_at", 6)]) (N := ["_law_dice_here", "_law_most", "_law_step", "_law_start", "_law_marks", "_law_found", "_law_at", "_law_mark", "_law_far", "_law_copy", "_law_one"]) (sc := defScope s_law_any_arrivals) (by decide +kernel)) (fun _ _ _ _ _ => (pg_name (i := 6) sc_law_any_arrivals.nd rfl (Or.inl rfl) (Or.inr rfl))) (fun _ _ _ _ _ => pts_nil) (fun _ _ _ _ _ => (pe_op op_add (pv 3) (pe_op op_mul (pv 2) (pv 6))))) (pa_cons (pe_lst pa_nil) pa_nil)) rfl)
    (pss_cons (ps_for PassesOwn.never rfl (pi_enumK (K := K) (by rfl) (T.free fi_free_enumerate) (pa_cons (pv 4) pa_nil)) (pg_tupK (K := K) (n := 2) rfl (pgs_cons (pg_name (i := 6) sc_law_any_arrivals.nd rfl (Or.inl rfl)) (pgs_cons (pg_name (i := 7) sc_law_any_arrivals.nd rfl (Or.inl rfl)) pgs_nil)))
      (pss_one (ps_if (pt_cmpR op_gt (pe_callR c_law_roll hr (by decide) (by rfl) (pa_cons (pv 0) (pa_cons pe_int pa_nil))) pe_int (nomark _)) (pss_cons (ps_set (i := 8) sc_law_any_arrivals.nd rfl (Or.inl rfl) (pe_callR c_law_one_of hr (by decide) (by rfl) (pa_cons (pv 0) (pa_cons (pe_lst (pa_cons pe_int (pa_cons pe_int (pa_cons (pv 6) pa_nil)))) pa_nil))))
    (pss_cons (ps_setLc (i := 9) (own := [("_law_one", 10)]) rfl sc_law_any_arrivals.nd rfl rfl (sw_true rfl rfl rfl (by decide +kernel)) (pi_listK (K := K) (pe_slice (sl_listK (K := K)) (pv 4) (po_some (pe_callB (id := "max") (call_max2 rfl) (by rfl) (T.free fi_free_max) (by decide +kernel) (pa_cons pe_int (pa_cons (pe_op op_sub (pv 6) (pv 8)) pa_nil)))) (po_some (pv 6)))) (blkOk_by (own := [("_law_one", 10)]) (N := ["_law_dice_here", "_law_most", "_law_step", "_law_start", "_law_marks", "_law_found", "_law_at", "_law_mark", "_law_far", "_law_copy", "_law_one"]) (sc := defScope s_law_any_arrivals) (by decide +kernel)) (fun _ _ _ _ _ => (pg_name (i := 10) sc_law_any_arrivals.nd rfl (Or.inl rfl) (Or.inr rfl))) (fun _ _ _ _ _ => (pts_one (pt_cmpR op_gt (pe_callR c_law_roll hr (by decide) (by rfl) (pa_cons (pv 0) (pa_cons pe_int pa_nil))) pe_int (nomark _)))) (fun _ _ _ _ _ => (pv 10)))
    (pss_one (ps_expr (pe_bmK (K := K) PySem.F.plainAttrs_list PySem.F.slot_list_append PySem.F.type_list_append mt_append (pv 5) (pa_cons (pe_tup (pa_cons (pv 7) (pa_cons (pe_callR c_law_one_of hr (by decide) (by rfl) (pa_cons (pv 0) (pa_cons (pe_lst (pa_cons pe_str (pa_cons pe_str (pa_cons pe_str pa_nil)))) pa_nil))) (pa_cons (pe_tupleK (K := K) (by rfl) (T.free fi_free_tuple) (pv 9)) pa_nil)))) pa_nil)))))) pss_nil)))
    (pss_one (ps_ret (pv 5)))))), ?_⟩
  try dsimp only [L2.cxOf]
  refine st_unp (ms1 := [(a, .dice)]) (r := rTup [rEx (fun k : Int => 0 < k ∧ k ≤ 10000000000) rI, rEx (fun k : Int => 0 ≤ k ∧ k ≤ 5) rI]) (ev_tup (ea_cons (ms1 := [(a, .dice)]) ?_ (ea_cons (ms1 := [(a, .dice)]) ?_ ea_nil)) (by simp)) (gm_tup2 (vs := [2, 3]) (by simp) (by simp)) S fun σ1 G1 H1 e1 S1 => ?_
  · refine ev_any (ev_callD (a, [rI 1, rI 1, rI 1, rI 3, rI ((10 : Int) ^ (10 : Int).toNat)]) 0 (ea_cons (ev_var rfl) (ea_cons (ev_lst (ea_cons ev_c (ea_cons ev_c (ea_cons ev_c (ea_cons ev_c (ea_cons (ev_op ev_c ev_c (rv_Ic pw)) ea_nil))))) (by simp)) ea_nil)) ⟨by simp, by simp⟩ rfl rfl rfl) fun v G ⟨r, hr, hv⟩ => ?_
    simp only [List.mem_cons, List.not_mem_nil, or_false] at hr
    rcases hr with rfl | rfl | rfl | rfl | rfl
    · exact ⟨1, by decide, hv⟩
    · exact ⟨1, by decide, hv⟩
    · exact ⟨1, by decide, hv⟩
    · exact ⟨3, by decide, hv⟩
    · exact ⟨(10 : Int) ^ (10 : Int).toNat, by decide, hv⟩
  · refine ev_any (ev_callD (a, [rI 0, rI 0, rI 5]) 0 (ea_cons (ev_var rfl) (ea_cons (ev_lst (ea_cons ev_c (ea_cons ev_c (ea_cons ev_c ea_nil))) (by simp)) ea_nil)) ⟨by simp, by simp⟩ rfl rfl rfl) fun v G ⟨r, hr, hv⟩ => ?_
    simp only [List.mem_cons, List.not_mem_nil, or_false] at hr
    rcases hr with rfl | rfl | rfl
    · exact ⟨0, by decide, hv⟩
    · exact ⟨0, by decide, hv⟩
    · exact ⟨5, by decide, hv⟩
  obtain ⟨st, ⟨st0, st1⟩, S1⟩ := S1.open_ (i := 2) rfl
  obtain ⟨s0, ⟨s00, s01⟩, S1⟩ := S1.open_ (i := 3) rfl
  dsimp only
  have lad0 : ∀ x ∈ ladder st s0 n, 0 ≤ x ∧ x ≤ 100000000000 := fun x hx => by
    obtain ⟨i, hi, e⟩ := List.mem_map.mp hx
    have hi : i < n := List.mem_range.mp hi
    have a1 : 0 ≤ st * (i : Int) := Int.mul_nonneg (by omega) (by omega)
    have a2 : st * (i : Int) ≤ 10000000000 * (i : Int) := Int.mul_le_mul_of_nonneg_right st1 (by omega)
    omega
  have lt_ := ladder_lt (s0 := s0) (n := n) st0
  have llen : (ladder st s0 n).length = n := by unfold ladder; rw [List.length_map, List.length_range]
  refine st_parM (i := 4) (j := 5) (r := rLst ((ladder st s0 n).map rI)) ?_ S1 fun d σ2 G2 H2 e2 S2 => ?_
  · refine ev_is (ev_lcA (List.range n) (f := fun i : Nat => rI (i : Int)) (e := fun i : Nat => rI (s0 + st * (i : Int))) (ei_rng1 (m := (n : Int)) (n := n) (ea_cons (ev_var rfl) ea_nil) (by omega) (by omega) (by omega)) (by rw [List.length_range]; omega) (fun i hi => gm_name (by simp)) fun i hi B => ?_) (by unfold ladder; rw [List.map_map]; rfl)
    exact ev_op (ev_var rfl) (ev_op (ev_var rfl) (ev_var rfl) (rv_Ic (.inl ⟨by omega, by omega⟩))) rv_I0
  dsimp only
  refine st_for (ι := Nat × List Arr) (ei_enum (rs := (ladder st s0 n).map rI) (ea_cons (ev_var rfl) ea_nil)) S2 (fun i x => x.1 = i ∧ PoI st s0 i x.2)
    (fun _ => [some (rV (.ref a)), some (rN_ n), some (rI st), some (rI s0), some (rLst ((ladder st s0 n).map rI)), some (rV (.ref d)), none, none, none, none, none])
    (fun x => [(d, .lst (x.2.map rArr)), (a, .dice)]) (0, []) ⟨rfl, by simp, by simp, by simp, by simp⟩ (fun B σ G H S => S) (fun B1 G3 H3 i r x σ4 G4 H4 e3 hr hx e4 hl un sm S4 => ?_) (fun x σ4 G4 H4 hx e3 S4 => ?_)
  · obtain ⟨i', As⟩ := x
    obtain ⟨rfl, hI⟩ := hx
    dsimp only at hI S4 hr
    have hlt : i' < n := by
      have := (List.getElem?_eq_some_iff.mp hr).1
      rw [List.length_mapIdx, List.length_map, llen] at this
      exact this
    rw [List.getElem?_mapIdx, List.getElem?_map, ladder_at hlt] at hr
    cases hr
    have hlen := hI.len
    refine ⟨_, [6, 7], gm_tup2 (by simp) (by simp), fun σ5 G5 H5 e5 S5 => ?_⟩
    refine st_ifE (ep_val (ev_op (ev_callD (a, (3 : Int)) 1 (ea_cons (ev_var rfl) (ea_cons ev_c ea_nil)) ⟨by show (0 : Int) < 3; decide, by show (3 : Int) ≤ 100000; decide⟩ rfl rfl rfl) ev_c rv_drawn)) S5 fun b G6 H6 hb e6 S6 => ⟨fun _ => ?_, fun _ => ?_⟩
    · refine st_set (i := 8) (r := rEx (fun _ : Nat => True) rN_) (ms1 := [(d, .lst (As.map rArr)), (a, .dice)]) ?_ S6 fun σ7 G7 H7 e7 S7 => ?_
      · refine ev_any (ev_callD (a, [rI 2, rI 4, rI (i' : Int)]) 1 (ea_cons (ev_var rfl) (ea_cons (ev_lst (ea_cons ev_c (ea_cons ev_c (ea_cons (ev_var rfl) ea_nil))) (by simp)) ea_nil)) ⟨by simp, by simp⟩ rfl rfl rfl) fun v G ⟨r, hr, hv⟩ => ?_
        simp only [List.mem_cons, List.not_mem_nil, or_false] at hr
        rcases hr with rfl | rfl | rfl
        · exact ⟨2, trivial, hv⟩
        · exact ⟨4, trivial, hv⟩
        · exact ⟨i', trivial, hv⟩
      obtain ⟨far, _, S7⟩ := S7.open_ (i := 8) rfl
      dsimp only
      have cut : cutRs ((ladder st s0 n).map rI) (some (if (i' : Int) - (far : Int) > 0 then (i' : Int) - (far : Int) else 0)) (some (i' : Int)) = (((ladder st s0 n).take i').drop (i' - far)).map rI := by
        have e : (if (i' : Int) - (far : Int) > 0 then (i' : Int) - (far : Int) else 0) = ((i' - far : Nat) : Int) := by split <;> omega
        rw [e, cutRs_both (by rw [List.length_map, llen]; omega) (by rw [List.length_map, llen]; omega), List.drop_take, List.map_take, List.map_drop]
      refine st_set (i := 9) (r := rEx (fun l : List Int => l.Sublist ((ladder st s0 n).take i')) fun l => rLst (l.map rI)) (ms1 := [(d, .lst (As.map rArr)), (a, .dice)]) ?_ S7 fun σ8 G8 H8 e8 S8 => ?_
      · refine ev_any (ev_lc0 (ei_is (ei_list (ev_slL (ev_var rfl) (eo_some (ev_cb (ea_cons ev_c (ea_cons (ev_op (ev_var rfl) (ev_var rfl) rv_I0) ea_nil)) rc_max)) (eo_some (ev_var rfl)))) cut) (by rw [List.length_map, List.length_drop, List.length_take]; omega) (fun j ys => ∃ l : List Int, ys = l.map rI ∧ l.Sublist ((((ladder st s0 n).take i').drop (i' - far)).take j)) ⟨[], rfl, List.nil_sublist _⟩ fun j r ys hr ⟨l, hy, hs⟩ => ?_) fun v G ⟨ys, ⟨l, hy, hs⟩, hv⟩ => ⟨l, hs.trans ((List.take_sublist _ _).trans (List.drop_sublist _ _)), by subst hy; exact hv⟩
        rw [List.getElem?_map] at hr
        cases hq : (((ladder st s0 n).take i').drop (i' - far))[j]? with
        | none => rw [hq] at hr; cases hr
        | some m =>
          rw [hq] at hr
          cases hr
          refine ⟨_, fun _ => True, rI m, gm_name (by simp), fun B => ?_, fun _ B => ev_var rfl, fun _ => ⟨l ++ [m], by rw [hy, List.map_append]; rfl, by rw [take_at hq]; exact hs.append (List.Sublist.refl _)⟩, fun _ => ⟨l, hy, by rw [take_at hq]; exact hs.trans (List.sublist_append_left _ _)⟩⟩
          intro σ G H S Q kk
          exact (ep_val (ev_op (ev_callD (a, (3 : Int)) 1 (ea_cons (ev_var rfl) (ea_cons ev_c ea_nil)) ⟨by show (0 : Int) < 3; decide, by show (3 : Int) ≤ 100000; decide⟩ rfl rfl rfl) ev_c rv_drawn)) σ G H S Q fun b G' H' hb e S' => kk b G' H' trivial e S'
      obtain ⟨l, hs, S8⟩ := S8.open_ (i := 9) rfl
      dsimp only
      refine st_drop (ev_append (j := 0) (rs := As.map rArr) (r := rEx (fun z : Str => z ∈ (["ann", "bob", "eve", "zzzzzzzz"] : List Str)) fun z => rTup [rI (s0 + st * (i' : Int)), rS z, rInts l]) (ev_var rfl) (ea_cons (ev_imp (ev_tup (ea_cons (ev_var rfl) (ea_cons (ev_any (ev_callD (a, [rS "ann", rS "bob", rS "zzzzzzzz"]) 1 (ea_cons (ev_var rfl) (ea_cons (ev_lst (ea_cons ev_c (ea_cons ev_c (ea_cons ev_c ea_nil))) (by simp)) ea_nil)) ⟨by simp, by simp⟩ rfl rfl rfl) fun v G h => names_ok h) (ea_cons (ev_tupOfL (ev_var rfl)) ea_nil))) (by simp)) fun v G h => rtup_ex h) ea_nil) ⟨0, _, rfl⟩ rfl (by rw [List.length_map]; omega)) S8 fun G9 H9 e9 S9 => ?_
      obtain ⟨z, hz, S9⟩ := S9.openL (j := 0) (rs := As.map rArr) rfl
      have sub : (l ++ [s0 + st * (i' : Int)]).Sublist (ladder st s0 n) := by
        refine (hs.append (List.Sublist.refl _)).trans ?_
        rw [← take_at (ladder_at hlt)]
        exact List.take_sublist _ _
      have hin : ∀ x ∈ l ++ [s0 + st * (i' : Int)], 0 ≤ x ∧ x ≤ 100000000000 := fun x hx => lad0 x (sub.subset hx)
      have hm := hin (s0 + st * (i' : Int)) (List.mem_append_right _ (List.mem_singleton.mpr rfl))
      have hle : l.length ≤ 9 := by
        have := hs.length_le
        rw [List.length_take] at this
        omega
      refine ⟨(i' + 1, As ++ [⟨s0 + st * (i' : Int), z, l⟩]), G9, ⟨rfl, hI.add ⟨hm.1, hm.2, hz, lt_.sublist sub, fun x hx => (hin x (List.mem_append_left _ hx)).1, hle⟩ rfl st0⟩, ?_⟩
      dsimp only
      rw [List.map_append]
      exact S9.weak (by repeat' constructor)
    · exact ⟨(i' + 1, As), G6, ⟨rfl, hI.keep⟩, S6.weak (by repeat' constructor)⟩
  · obtain ⟨i', As⟩ := x
    obtain ⟨rfl, hI⟩ := hx
    dsimp only at hI S4
    rw [List.length_mapIdx, List.length_map, llen] at hI
    have nd := S4.mem.nd
    have nda : d ∉ [(a, Cell.dice)].map (·.1) := fun hm => by
      have : d = a := by simpa using hm
      subst this
      simp at nd
    obtain ⟨G5, e5, S5⟩ := S4.freezeS (i := 5) ((S4.own _ List.mem_cons_self).resolve_left nda) rfl
    dsimp only
    exact st_retP _ (ev_var rfl) S5 fun v G' H' e S' hv => k _ _ G' H' S' v ⟨As, ⟨hI.ok, hI.nd, by have := hI.len; omega⟩, hv⟩
end
end K62
set_option maxHeartbeats 4000000
/-! K62Ey: dicts made, listed, merged. -/
namespace K62
open PySem PySem.Spec PyProof.Rows L2
theorem putI_len {α : Type} {k : Int} {x : α} {ks : List (Int × α)} : (putI k x ks).length ≤ ks.length + 1 := by
  unfold putI
  split
  · rw [List.length_map]; omega
  · rw [List.length_append]; simp
section
variable {B : Bs} {L : List Addr} {ctx : Ct} {ms ms1 : Ms} {te tk ta tb : TE} {tl : TA} {tt : TT} {wi : TI} {g : TG} {r : Rp} {rs : List Rp} {K : PySem.W.Frag} {σ : L2.St} {G H : Hp} {vs : List V} {Q : VK}
theorem ev_dcN {γ ι : Type} {P : γ → Prop} {rsf : γ → List Rp} {vs : List Nat} {mf : ι → Ms} (inv : γ → Nat → ι → List (Int × Rp) → Prop) (a0 : ι) (hi : EvIx B L wi ctx ms P rsf (mf a0)) (hn : ∀ c, P c → (rsf c).length ≤ 100000) (h0 : ∀ c, P c → inv c 0 a0 [])
    (turn : ∀ (c : γ) (i : Nat) (r : Rp) (a : ι) (ys : List (Int × Rp)), P c → (rsf c)[i]? = some r → inv c i a ys → ∃ ctx1 : Ct, GM g r (wipeC ctx vs) ctx1 vs ∧ ∀ (B : Bs) (σ : L2.St) (G H : Hp), Sx B L ctx1 (mf a) σ G H → ∀ (Qy : V → V → Hp → Prop) (Qn : Hp → Prop),
      (∀ x v e a' G' H', inv c (i + 1) a' (putI x e ys) → Same G G' → Sx B L ctx1 (mf a') σ G' H' → e.ok v G' → Qy (.int x) v H') → (∀ a' G' H', inv c (i + 1) a' ys → Same G G' → Sx B L ctx1 (mf a') σ G' H' → Qn H') → tt σ H fun b H3 => if b = true then tk σ H3 fun y H4 => te σ H4 fun z H5 => Qy y z H5 else Qn H3)
    (S : Sx B L ctx ms σ G H) (k : ∀ c a ys v G' H', P c → inv c (rsf c).length a ys → Same G G' → Sx B L ctx (mf a) σ G' H' → (rDct ys).ok v G' → Q v H') : tDc wi g tt tk te vs σ H Q := hi σ G H S _ fun c J G1 H1 pc e1 S1 src => by
  intro D hD
  have gD : G1 D = none := S1.ex.free hD
  have dL : ∀ d ∈ L, d ≠ D := fun d hd e => by
    obtain ⟨o, ho⟩ := S1.ex.lk d hd
    rw [e, gD] at ho
    cases ho
  -- cells are not D, wherever D stands
  have ne_of : ∀ {ms' : Ms} {ctx' : Ct} {σ' : L2.St} {G H : Hp}, Sx ⟨(mf a0).map (·.1), G1, H1⟩ L ctx' ms' σ' G H → G D = none → True := fun _ _ => trivial
  let W : Nat → Hp → Prop := fun i H => i ≤ (rsf c).length ∧ ∃ a ys xs G, inv c i a ys ∧ ys.length ≤ i ∧ H D = some (.dK xs) ∧ AlK ys xs G ∧ Same G1 G ∧ G D = none ∧ (∀ d ∈ L, H d = H1 d) ∧ (∀ p ∈ mf a, p.1 ≠ D) ∧ Sx ⟨(mf a0).map (·.1), G1, H1⟩ L ctx (mf a) σ G H
  have reD : ∀ {xs : List (Key × V)} {G H : Hp} {σ' : L2.St} {ctx' : Ct} {ms' : Ms}, (∀ p ∈ ms', p.1 ≠ D) → G D = none → Sx ⟨(mf a0).map (·.1), G1, H1⟩ L ctx' ms' σ' G H → Sx ⟨(mf a0).map (·.1), G1, H1⟩ L ctx' ms' σ' G (upd H D (.dK xs)) := fun {xs G H σ' ctx' ms'} hne hG S => by
    refine ⟨S.sl, S.ex.up fun b u n e => by rw [upd_ne (fun z => n (by rw [z]; exact hG))]; exact e, ⟨fun q hq => (S.mem.at_ q hq).move (Same.refl G) (upd_ne (hne q hq)), S.mem.out, S.mem.nd⟩, ⟨S.stp.old, fun b u n e => ?_, fun b u e => ?_⟩, S.own⟩
    · have : b ≠ D := ne_of_none e hD
      rw [upd_ne this]
      exact S.stp.keep b u n e
    · have : b ≠ D := ne_of_none e hD
      rw [upd_ne this]
      exact S.stp.there b u e
  have ms0 : ∀ p ∈ mf a0, p.1 ≠ D := fun p hp e => by
    obtain ⟨u, hu⟩ := (S1.mem.at_ p hp).some_
    rw [e, hD] at hu
    cases hu
  refine ⟨fun i m H => m = (rsf c).length - i ∧ W i H, ⟨(rsf c).length, by simp, Nat.zero_le _, a0, [], [], G1, h0 c pc, Nat.le_refl _, upd_same, .nil, Same.refl G1, gD, fun d hd => upd_ne (dL d hd), ms0, reD ms0 gD S1.re⟩, ?_⟩
  rintro i m H' ⟨rfl, hle, a, ys, xs, G', hinv, hyl, hDx, hal, eG, gD', eL, msD, S'⟩
  by_cases hlt : i < (rsf c).length
  · have hr : (rsf c)[i]? = some (rsf c)[i] := List.getElem?_eq_getElem hlt
    obtain ⟨go, yld⟩ := src.go eG eL S' hr
    refine .inr ⟨go, W (i + 1), fun H'' w => ⟨(rsf c).length - (i + 1), by omega, rfl, w⟩, fun x H2 y => ?_⟩
    have SD : Sx ⟨(mf a).map (·.1), G', H'⟩ L ctx (mf a) σ G' H' := S'.re
    obtain ⟨go2, yld2⟩ := src.go eG eL SD hr
    obtain ⟨G2, e2, S3, hx⟩ := yld2 x H2 y
    obtain ⟨ctx1, hg, hb⟩ := turn c i _ a ys pc hr hinv
    have S3' : Sx ⟨(mf a).map (·.1), G', H'⟩ L (wipeC ctx vs) (mf a) (wipe σ vs) G2 H2 := S3.ctx_ (S3.sl.wipe vs)
    have nD : D ∉ (mf a).map (·.1) := fun z => by
      obtain ⟨q, hq, e⟩ := List.mem_map.mp z
      exact msD q hq e
    have keepD : ∀ {ctx' : Ct} {ms' : Ms} {σ' : L2.St} {G4 H4 : Hp}, Sx ⟨(mf a).map (·.1), G', H'⟩ L ctx' ms' σ' G4 H4 → H4 D = some (.dK xs) ∧ G4 D = none ∧ Same G' G4 ∧ (∀ d ∈ L, H4 d = H1 d) ∧ (∀ p ∈ ms', p.1 ≠ D) ∧ Sx ⟨(mf a0).map (·.1), G1, H1⟩ L ctx ms' σ G4 H4 := fun {ctx' ms' σ' G4 H4} S6 => by
      have e6 : Same G' G4 := S6.stp.same S'.ex
      refine ⟨S6.stp.keep D _ nD hDx, by rw [S6.stp.old D _ hDx]; exact gD', e6, fun d hd => ?_, fun p hp z => ?_, ?_⟩
      · rw [← eL d hd]; exact Sx.locks S' S6 d hd
      · rcases S6.own p hp with q | q
        · rw [z] at q; exact nD q
        · have q : H' p.1 = none := q
          rw [z, hDx] at q
          cases q
      · exact (S'.un S6).ctx_ (S'.sl.mono e6)
    refine hg _ L (mf a) (wipe σ vs) G2 H2 x S3' hx _ fun σ3 S4 hw => ⟨wipe_wipe hw |>.trans rfl, ?_⟩
    refine hb _ σ3 G2 H2 S4 _ _ (fun x v e a' G4 H4 hinv' e4 S6 hv => ?_) (fun a' G4 H4 hinv' e4 S6 => ?_)
    · obtain ⟨k1, k2, k3, k4, k5, k6⟩ := keepD S6
      have hz := hn c pc
      refine ⟨xs, Sum.inl x, rfl, k1, line_lt ?_, hlt, a', putI x e ys, putK xs (Sum.inl x) v, G4, hinv', Nat.le_trans putI_len (Nat.succ_le_succ hyl), upd_same, (hal.mono k3).put hv, eG.trans k3, k2, fun d hd => by rw [upd_ne (dL d hd)]; exact k4 d hd, k5, reD k5 k2 k6⟩
      rw [← Paired.length hal]
      omega
    · obtain ⟨k1, k2, k3, k4, k5, k6⟩ := keepD S6
      exact ⟨hlt, a', ys, xs, G4, hinv', by omega, k1, hal.mono k3, eG.trans k3, k2, k4, k5, k6⟩
  · have e : i = (rsf c).length := by omega
    subst e
    refine .inl ⟨src.stop eG eL S' (Nat.le_refl _), ?_⟩
    have e3 : Same G' (upd G' D (.dK xs)) := same_upd gD'
    have S4 : Sx B L ctx (mf a) σ G' H' := S1.un S'
    refine k c a ys (.ref D) (upd G' D (.dK xs)) H' pc hinv (e1.trans (eG.trans e3)) ⟨S4.sl.mono e3, S4.ex.take gD' hDx, ⟨fun q hq => (S4.mem.at_ q hq).move e3 rfl, fun q hq => by rw [upd_ne (msD q hq)]; exact S4.mem.out q hq, S4.mem.nd⟩, ⟨fun b u q => ?_, S4.stp.keep, S4.stp.there⟩, S4.own⟩ ⟨D, xs, rfl, upd_same, hal.mono e3⟩
    have nb : b ≠ D := fun z => by
      subst z
      obtain ⟨u', q'⟩ := S1.stp.there b u q
      rw [hD] at q'
      cases q'
    rw [upd_ne nb]
    exact S4.stp.old b u q
/-- {tk: te for g in wi}: over things like f a, all keys new -/
theorem ev_dcA {α : Type} {vs : List Nat} (ls : List α) {f : α → Rp} {c1 : α → Ct} {x : α → Int} {e : α → Rp} (hi : EvI B L wi ctx ms (ls.map f) ms1) (hn : ls.length ≤ 100000) (nd : (ls.map x).Nodup)
    (hg : ∀ a ∈ ls, GM g (f a) (wipeC ctx vs) (c1 a) vs) (hk : ∀ a ∈ ls, ∀ B, EvM B L tk (c1 a) ms1 (rI (x a)) ms1) (he : ∀ a ∈ ls, ∀ B, EvM B L te (c1 a) ms1 (e a) ms1) :
    EvM B L (tDc wi g tYes tk te vs) ctx ms (rDct (ls.map fun a => (x a, e a))) ms1 := fun σ G H S Q k => by
  refine ev_dcN (γ := Unit) (ι := Unit) (P := fun _ => True) (mf := fun _ => ms1) (fun _ i _ ys => ys = (ls.take i).map fun a => (x a, e a)) () (ei_ix hi) (fun _ _ => by rw [List.length_map]; exact hn) (fun _ _ => by simp) (fun _ i r _ ys _ hr hy => ?_) S fun _ _ ys v G' H' _ hy e' S' hv => ?_
  · rw [List.getElem?_map] at hr
    cases hq : ls[i]? with
    | none => rw [hq] at hr; cases hr
    | some a =>
      rw [hq] at hr
      cases hr
      have ha : a ∈ ls := List.mem_of_getElem? hq
      refine ⟨c1 a, hg a ha, fun B σ G H S Qy Qn ky kn => ?_⟩
      unfold tYes
      dsimp only
      rw [if_pos rfl]
      refine hk a ha B σ G H S _ fun v1 G1 H1 e1 S1 h1 => ?_
      have h1 : v1 = .int (x a) := h1
      subst h1
      refine he a ha B σ G1 H1 S1 _ fun v2 G2 H2 e2 S2 h2 => ky (x a) v2 (e a) () G2 H2 ?_ (e1.trans e2) S2 h2
      rw [hy, putI_new, List.take_add_one, hq, List.map_append]
      · rfl
      · intro p hp z
        obtain ⟨b, hb, e3⟩ := List.mem_map.mp hp
        subst e3
        have z : x b = x a := z
        have q1 : (ls.take i).map x ++ (ls.drop i).map x = ls.map x := by rw [← List.map_append, List.take_append_drop]
        have q2 : ls.drop i = a :: ls.drop (i + 1) := by
          obtain ⟨w1, w2⟩ := List.getElem?_eq_some_iff.mp hq
          rw [List.drop_eq_getElem_cons w1, w2]
        rw [q2] at q1
        rw [← q1] at nd
        exact (List.nodup_append.mp nd).2.2 (x b) (List.mem_map.mpr ⟨b, hb, rfl⟩) (x a) (by simp) z
  · rw [List.length_map, List.take_length] at hy
    subst hy
    exact k v G' H' e' S' hv
/-- list(d) -/
theorem al_keys {ks : List (Int × Rp)} {kvs : List (Key × V)} {G : Hp} (h : AlK ks kvs G) : Al (ks.map fun p => rI p.1) (kvs.map fun kv => kV kv.1) G := by
  induction h with
  | nil => exact .nil
  | cons h t ih => exact .cons (by show kV _ = V.int _; rw [h.1]; rfl) ih
theorem rc_listD {ks : List (Int × Rp)} : RcM B [] rListD [rDct ks] ctx ms (rLst (ks.map fun p => rI p.1)) ms := fun σ G H xs S hal Q k => by
  obtain ⟨v, rfl, a, kvs, e, ha, hk⟩ := al1 hal
  subst e
  refine ⟨a, kvs, rfl, S.ex.dct0 ha, fun q hq => ?_⟩
  obtain ⟨e3, S3⟩ := S.new (o := .lst (kvs.map fun kv => kV kv.1)) hq
  exact k _ _ _ e3 S3 ⟨q, _, rfl, upd_same, (al_keys hk).mono e3⟩
theorem rc_listDM {ks : List (Int × Rp)} {a : Addr} {j : Nat} (hj : ms[j]? = some (a, .dct ks)) : RcM B L rListD [rV (.ref a)] ctx ms (rLst (ks.map fun p => rI p.1)) ms := fun σ G H xs S hal Q k => by
  obtain ⟨v, rfl, e⟩ := al1 hal
  have e : v = .ref a := e
  subst e
  have c : CAt a G H (.dct ks) := S.mem.at_ _ (List.mem_of_getElem? hj)
  cases c with
  | @dct _ kvs ha hk =>
    refine ⟨a, kvs, rfl, ha, fun q hq => ?_⟩
    obtain ⟨e3, S3⟩ := S.new (o := .lst (kvs.map fun kv => kV kv.1)) hq
    exact k _ _ _ e3 S3 ⟨q, _, rfl, upd_same, (al_keys hk).mono e3⟩
/-- dict(d), pure -/
theorem rc_dictC {ks : List (Int × Rp)} : RcM B L rDictC [rDct ks] ctx ms (rDct ks) ms := fun σ G H xs S hal Q k => by
  obtain ⟨v, rfl, a, kvs, e, ha, hk⟩ := al1 hal
  subst e
  refine ⟨a, kvs, rfl, S.ex.dct ha, fun p hp => ?_⟩
  obtain ⟨e3, S3⟩ := S.new (o := .dK kvs) hp
  exact k _ _ _ e3 S3 ⟨p, kvs, rfl, upd_same, hk.mono e3⟩
theorem mergeI_len : ∀ {more ks : List (Int × Rp)}, (mergeI ks more).length ≤ ks.length + more.length
  | [], ks => Nat.le_refl _
  | p :: t, ks => by
    have h1 := mergeI_len (more := t) (ks := putI p.1 p.2 ks)
    have h2 := putI_len (k := p.1) (x := p.2) (ks := ks)
    show (mergeI (putI p.1 p.2 ks) t).length ≤ _
    rw [List.length_cons]
    omega
theorem mergeI_look {x : Int} : ∀ {more ks : List (Int × Rp)}, (lookI x (mergeI ks more)).isSome = ((lookI x ks).isSome || decide (x ∈ more.map (·.1)))
  | [], ks => by simp [mergeI]
  | p :: t, ks => by
    show (lookI x (mergeI (putI p.1 p.2 ks) t)).isSome = _
    rw [mergeI_look (more := t), putI_look]
    by_cases e : x = p.1
    · rw [if_pos e]; simp [e]
    · rw [if_neg e, List.map_cons]
      congr 1
      exact decide_eq_decide.mpr ⟨fun h => List.mem_cons_of_mem _ h, fun h => (List.mem_cons.mp h).resolve_left e⟩
/-- d.update(e), d a cell -/
theorem ev_dupd {d : Addr} {ks more : List (Int × Rp)} {j : Nat} {ms2 : Ms} (h : EvM B L te ctx ms (rV (.ref d)) ms1) (ha : EvA B L tl ctx ms1 [rDct more] ms2) (hj1 : ∃ (j0 : Nat) (c : List (Int × Rp)), ms1[j0]? = some (d, .dct c)) (hj : ms2[j]? = some (d, .dct ks)) (hl : ks.length + more.length ≤ 100000) :
    EvM B L (tBM K "dict" rDUpd te tl) ctx ms rN (ms2.set j (d, .dct (mergeI ks more))) := fun σ G H S Q k =>
  h σ G H S _ fun v G1 H1 e1 S1 ev => by
    have ev : v = .ref d := ev
    subst ev
    obtain ⟨j0, c0, h0⟩ := hj1
    have c1 : CAt d G1 H1 (.dct c0) := S1.mem.at_ _ (List.mem_of_getElem? h0)
    cases c1 with
    | @dct _ kvs0 hd0 hk0 =>
      refine ⟨.inr (.inr (.inl ⟨rfl, .inl ⟨kvs0, hd0⟩⟩)), ha σ G1 H1 S1 _ fun vs G2 H2 e2 S2 hal => ?_⟩
      obtain ⟨w, rfl, b, mor, e, hb, hm⟩ := al1 hal
      subst e
      have c2 : CAt d G2 H2 (.dct ks) := S2.mem.at_ _ (List.mem_of_getElem? hj)
      have out : G2 d = none := S2.mem.out _ (List.mem_of_getElem? hj)
      cases c2 with
      | @dct _ kvs hd hk =>
        have ne : d ≠ b := fun z => by subst z; rw [out] at hb; cases hb
        exact ⟨d, b, kvs, mor, rfl, rfl, hd, S2.ex.dct hb, ne, Nat.le_trans (by rw [← Paired.length hk, ← Paired.length hm]; exact hl) (by decide), k .non G2 _ (e1.trans e2) (S2.put hj (.dct upd_same (AlK.merge hm hk))) rfl⟩
end
end K62
set_option maxHeartbeats 4000000
/-! K62Dr: a page's groups. -/
namespace K62
open PySem PySem.Spec PyProof.Rows L2
local macro_rules | `(tactic| walk_at "ev") => `(tactic| repeat' (first
  | ((with_reducible apply ev_var); exact rfl)
  | with_reducible exact ev_c
  | with_reducible exact ea_nil
  | with_reducible exact et_yes
  | with_reducible exact rv_I0
  | with_reducible exact eo_none
  | with_reducible apply eo_some
  | with_reducible apply ea_cons
  | with_reducible apply ev_op
  | (with_reducible apply ev_andV <;> try intro _)
  | (with_reducible apply ev_orV <;> try intro _)
  | with_reducible apply ev_notV
  | with_reducible apply ev_tup
  | with_reducible apply ev_lst
  | with_reducible apply ev_neg
  | with_reducible apply ev_cb
  | with_reducible apply et_B
  | with_reducible apply et_val
  | with_reducible apply et_not
  | (with_reducible apply et_and <;> try intro _)
  | (with_reducible apply et_or <;> try intro _)
  | with_reducible apply ev_call
  | with_reducible apply ev_fld
  | with_reducible exact cls_Cutter (by assumption)
  | with_reducible exact cls_Rule (by assumption)
  | with_reducible exact cls_Page (by assumption)
  | with_reducible exact cls_Inbox (by assumption)
  | with_reducible exact na_parts (by assumption)
  | with_reducible exact na_tables (by assumption)
  | with_reducible exact na_whole (by assumption)
  | with_reducible exact na_cutter (by assumption)
  | with_reducible exact na_sees (by assumption)
  | with_reducible exact na_rule (by assumption)
  | with_reducible exact na_pmarks (by assumption)
  | with_reducible exact na_letters (by assumption)
  | with_reducible exact na_bound (by assumption)
  | with_reducible exact na_shown (by assumption)
  | with_reducible exact na_moves (by assumption)
  | with_reducible exact na_near (by assumption)
  | with_reducible exact na_groups (by assumption)
  | with_reducible exact na_pages (by assumption)
  | with_reducible exact na_version (by assumption)
  | with_reducible exact na_marks (by assumption)
  | with_reducible exact isi_str (by assumption)
  | with_reducible exact isi_int (by assumption)
  | with_reducible exact isi_intbool (by assumption)
  | with_reducible exact isi_bool (by assumption)
  | with_reducible exact isi_tup (by assumption)
  | with_reducible exact isi_Cutter (by assumption)
  | with_reducible exact isi_Rule (by assumption)
  | with_reducible exact isi_Inbox (by assumption)
  | with_reducible exact rc_lenT
  | with_reducible exact rc_lenL
  | with_reducible apply rc_lenS
  | with_reducible exact rc_abs
  | with_reducible exact rc_max
  | with_reducible exact rc_min
  | with_reducible exact rc_int
  | with_reducible exact rc_intB
  | with_reducible exact rv_inSign
  | with_reducible exact rv_inT
  | with_reducible exact rv_inL
  | with_reducible exact rv_ninL
  | with_reducible exact rv_ixT0
  | with_reducible exact rv_ixT1
  | with_reducible exact rv_ixT2
  | with_reducible exact rv_ixT3
  | with_reducible exact rv_ixL0
  | with_reducible exact rv_ixL1
  | with_reducible exact rv_ixL2))
abbrev rSomeI : Rp := rEx (fun _ : Int => True) rI
section
variable {B : Bs} {L : List Addr} {ctx : Ct} {ms ms1 : Ms} {te : TE} {r : Rp} {rs : List Rp} {K : PySem.W.Frag} {D : Ends} {σ : L2.St} {G H : Hp}
theorem st_parDLI {i j l v : Nat} {s : Int} (hc : ctx[v]? = some (some (rI s))) (S : Sx B L ctx ms σ G H) (k : ∀ d d2 σ' G' H', Same G G' → Sx B L (((ctx.set i (some (rV (.ref d)))).set j (some (rV (.ref d2)))).set l (some (rI 0))) ((d2, .lst [rI s]) :: (d, .dct [(s, rSomeI)]) :: ms) σ' G' H' → D.nx σ' H') :
    tPar3 i j l (tCons (tDisp [(tVar v, tC (.int 0))]) (tCons (tLst (tCons (tVar v) tNil)) (tCons (tC (.int 0)) tNil))) D σ H := fun p hp => by
  have S1 := S.newM (c := .dct []) (o := .dK []) hp (.dct upd_same .nil)
  refine ev_var hc σ G _ S1 _ fun x G1 H1 e1 S2 hx => ?_
  have hx : x = .int s := hx
  subst hx
  have c : CAt p G1 H1 (.dct []) := S2.mem.at_ _ List.mem_cons_self
  cases c with
  | @dct _ xs ha hal =>
    cases hal
    refine ⟨ha, [(Sum.inl s, .int 0)], rfl, by simp, ?_⟩
    have S3 := S2.put (j := 0) (a := p) (c := .dct []) (o := .dK (mergeK [] [(Sum.inl s, .int 0)])) (c' := .dct [(s, rSomeI)]) rfl (.dct upd_same (.cons ⟨rfl, 0, trivial, rfl⟩ .nil))
    refine ev_var hc σ G1 _ S3 _ fun y G4 H4 e4 S4 hy => ⟨line_of (by simp), fun q hq => ?_⟩
    have S5 := S4.newM (c := .lst [rI s]) hq (.lst upd_same (.cons hy .nil))
    exact ⟨.ref p, .ref q, .int 0, rfl, k p q _ _ _ (e1.trans e4) (((S5.set rfl).set rfl).set rfl)⟩
theorem st_parLD {i j : Nat} (S : Sx B L ctx ms σ G H) (k : ∀ d d2 σ' G' H', Same G G' → Sx B L ((ctx.set i (some (rV (.ref d)))).set j (some (rV (.ref d2)))) ((d2, .dct []) :: (d, .lst []) :: ms) σ' G' H' → D.nx σ' H') :
    tPar i j (tCons (tLst tNil) (tCons tDNewK tNil)) D σ H := ⟨by decide, fun p hp q hq => ⟨.ref p, .ref q, rfl, by
  have S1 := S.newM (c := .lst []) hp (.lst upd_same .nil)
  have S2 := S1.newM (c := .dct []) hq (.dct upd_same .nil)
  exact k p q _ _ _ (Same.refl G) ((S2.set rfl).set rfl)⟩⟩
theorem st_aug {i : Nat} {x y : Int} (hc : ctx[i]? = some (some (rI x))) (h : EvM B L te ctx ms (rI y) ms) (S : Sx B L ctx ms σ G H) (k : ∀ σ' G' H', Same G G' → Sx B L (ctx.set i (some (rI (x + y)))) ms σ' G' H' → D.nx σ' H') : tAug i te (ipI fun i j => i + j) D σ H := by
  obtain ⟨v, h1, hv⟩ := S.sl.at_ i _ hc
  refine ⟨v, h1, h σ G H S _ fun z G1 H1 e1 S1 hz => ⟨x, y, hv, hz, k _ G1 H1 e1 (S1.set rfl)⟩⟩
end
structure Fnd (mm : List Int) (ad : Int → Int → Bool) (s : Int) (F : List Int) : Prop where
  nd : F.Nodup
  s0 : s ∈ F
  sub : ∀ x ∈ F, x ∈ mm
  rc : ∀ x ∈ F, Rch mm ad s x
theorem Fnd.mem {mm : List Int} {ad : Int → Int → Bool} {s : Int} {F : List Int} (f : Fnd mm ad s F) (cl : ∀ y ∈ F, ∀ z ∈ mm, ad y z = true → z ∈ F) (hm : s ∈ mm) {y : Int} : y ∈ F ↔ y ∈ comp mm ad s := by
  rw [comp_mem]
  constructor
  · intro h; exact ⟨f.sub y h, f.rc y h⟩
  · intro ⟨hy, h⟩
    clear hy
    induction h with
    | refl => exact f.s0
    | step h hy ha ih => exact cl _ ih _ hy ha
structure FndI (mm : List Int) (ad : Int → Int → Bool) (s h : Int) (F0 near : List Int) (i : Nat) (F : List Int) : Prop where
  b : Fnd mm ad s F
  ex : ∃ e, F = F0 ++ e
  nr : ∀ y ∈ near.take i, y ∈ F
theorem FndI.keep {mm : List Int} {ad : Int → Int → Bool} {s h : Int} {F0 near : List Int} {i : Nat} {F : List Int} (z : FndI mm ad s h F0 near i F) {y : Int} (hy : near[i]? = some y) (hF : y ∈ F) : FndI mm ad s h F0 near (i + 1) F :=
  ⟨z.b, z.ex, fun x hx => by
    rw [List.take_add_one, hy] at hx
    rcases List.mem_append.mp hx with q | q
    · exact z.nr x q
    · have : x = y := by simpa using q
      rw [this]; exact hF⟩
theorem FndI.add {mm : List Int} {ad : Int → Int → Bool} {s h : Int} {F0 near : List Int} {i : Nat} {F : List Int} (z : FndI mm ad s h F0 near i F) (hh : h ∈ F0) {y : Int} (hy : near[i]? = some y) (hF : y ∉ F) (hm : y ∈ mm) (ha : ad h y = true) : FndI mm ad s h F0 near (i + 1) (F ++ [y]) :=
  ⟨⟨List.nodup_append.mpr ⟨z.b.nd, by simp, fun x hx w hw e => by
      have : w = y := by simpa using hw
      exact hF (by rw [← this, ← e]; exact hx)⟩, List.mem_append_left _ z.b.s0, fun x hx => by
      rcases List.mem_append.mp hx with q | q
      · exact z.b.sub x q
      · have : x = y := by simpa using q
        rw [this]; exact hm, fun x hx => by
      rcases List.mem_append.mp hx with q | q
      · exact z.b.rc x q
      · have : x = y := by simpa using q
        obtain ⟨e, he⟩ := z.ex
        rw [this]; exact .step (z.b.rc h (by rw [he]; exact List.mem_append_left _ hh)) hm ha⟩, by obtain ⟨e, he⟩ := z.ex; exact ⟨e ++ [y], by rw [he, List.append_assoc]⟩, fun x hx => by
    rw [List.take_add_one, hy] at hx
    rcases List.mem_append.mp hx with q | q
    · exact List.mem_append_left _ (z.nr x q)
    · exact List.mem_append_right _ (by simpa using q)⟩
section
variable {P : Program} {w : World} {K : PySem.W.Frag} {mg : Str → Option Value} {base : Heap}
abbrev nbs (mm : List Int) (b : Int → List Int) (se : Bool) (x : Int) : List Int := mm.filter fun y => adj se b x y
abbrev rNear (mm : List Int) (b : Int → List Int) (se : Bool) : Rp := rDct (mm.map fun m => (m, rLst ((nbs mm b se m).map rI)))
structure PgX where
  a : Addr
  dx : Addr
  fs : List (Str × Rp)
  mm : List Int
  b : Int → List Int
  se : Bool
abbrev PgX.ad (x : PgX) : Int → Int → Bool := adj x.se x.b
structure PgX.ok (x : PgX) : Prop where
  lt : x.mm.Pairwise (· < ·)
  len : x.mm.length ≤ 100
  near : x.fs.lookup ("own_near" : Str) = some (rNear x.mm x.b x.se)
  dn : x.fs.lookup ("distances" : Str) = none
  marks : x.fs.lookup ("own_marks" : Str) = some (rInts x.mm)
abbrev PgX.c (K : Fr) (x : PgX) : Ms := [(x.a, .ins (He.ga K "Page") x.dx x.fs)]
abbrev rFound (F : List Int) : Rp := rDct (F.map fun m => (m, rSomeI))
abbrev spDist (K : Fr) : Sp := spF (fun (x : PgX × Int) _ => x.1.ok ∧ x.2 ∈ x.1.mm) (fun x => [rV (.ref x.1.a), rI x.2]) (fun x => x.1.c K) (fun x => x.1.c K) (fun x => rEx (fun F => Fnd x.1.mm x.1.ad x.2 F ∧ ∀ y ∈ F, ∀ z ∈ x.1.mm, x.1.ad y z = true → z ∈ F) rFound)
theorem sc_Page_distances : FnScope ["self", "mark", "found", "order", "at", "other"] ["self", "mark"] (defScope s_Page_distances) := ⟨rfl, rfl, rfl, by decide +kernel, rfl, by decide +kernel, by decide +kernel⟩
theorem mt_Page_distances (T : Tx P w K mg base) : Mt P w K mg base 1 (He.ga K "Page") "distances" (spDist K) := by
  obtain ⟨fd, F⟩ := T.def_ di_Page_distances
  refine ⟨_, T.meth fi_meth_Page_distances, fnR_of F sc_Page_distances (fun _ => rfl) (fun _ _ _ _ _ _ us hl => match us, hl with | [_, _], _ => rfl) fun cdv A outer s H0 vs Q E hr z L G hp k S => ?_⟩
  obtain ⟨⟨a, dx, fs, mm, b, se⟩, s⟩ := z
  obtain ⟨⟨hlt, hlen, hnear, hdn, hmarks⟩, hs⟩ := hp
  dsimp only at hlt hlen hnear hmarks hs
  refine ⟨_, (pss_cons (ps_par3 (i := 2) (j := 3) (l := 4) rfl sc_Page_distances.nd rfl rfl rfl (by decide) (by decide) (by decide) rfl rfl rfl (pa_cons (pe_disp (pps_cons (pv 1) pe_int pps_nil) (by rfl) (by rfl) (fun z => by cases z) (by decide)) (pa_cons (pe_lst (pa_cons (pv 1) pa_nil)) (pa_cons pe_int pa_nil))) rfl)
    (pss_cons (ps_while PassesOwn.never (pt_cmpR op_lt (pv 4) (pe_callB (id := "len") (call_lenK (K := K)) (by rfl) (T.free fi_free_len) (by decide +kernel) (pa_cons (pv 3) pa_nil)) (nomark _)) (pss_cons (ps_for PassesOwn.never rfl (pi_listK (K := K) (pe_dget (hu_of hr) (pe_fldK (K := K) (pv 0) rfl) (pe_ix (ix_listK (K := K)) (pv 3) (pv 4) (fun _ _ => rfl)) (fun _ _ => rfl))) (pg_name (i := 5) sc_Page_distances.nd rfl (Or.inl rfl))
      (pss_one (ps_if (pt_cmp (pc_dnotin (hu_of hr) (pv 5) (pv 2))) (pss_cons (ps_dput (hu_of hr) (pv 2) (pv 5) (pe_op op_add (pe_dget (hu_of hr) (pv 2) (pe_ix (ix_listK (K := K)) (pv 3) (pv 4) (fun _ _ => rfl)) (fun _ _ => rfl)) pe_int) rfl)
    (pss_one (ps_expr (pe_bmK (K := K) PySem.F.plainAttrs_list PySem.F.slot_list_append PySem.F.type_list_append mt_append (pv 3) (pa_cons (pv 5) pa_nil))))) pss_nil)))
    (pss_one (ps_aug (i := 4) sc_Page_distances.nd rfl (Or.inl rfl) pe_int ip_add))))
    (pss_one (ps_ret (pv 2))))), ?_⟩
  try dsimp only [L2.cxOf]
  refine st_parDLI (v := 1) rfl S fun d d2 σ1 G1 H1 e1 S1 => ?_
  dsimp only
  refine st_while (ι := List Int × Nat) S1 (fun x => Fnd mm (adj se b) s x.1 ∧ x.2 ≤ x.1.length ∧ ∀ (j : Nat) (y : Int), j < x.2 → x.1[j]? = some y → ∀ z ∈ mm, adj se b y z = true → z ∈ x.1) (fun x => mm.length - x.2)
    (fun x => [some (rV (.ref a)), some (rI s), some (rV (.ref d)), some (rV (.ref d2)), some (rN_ x.2), none]) (fun x => [(d2, .lst (x.1.map rI)), (d, .dct (x.1.map fun m => (m, rSomeI))), (a, .ins (He.ga K "Page") dx fs)]) ([s], 0)
    ⟨⟨by simp, by simp, fun x hx => by rw [List.mem_singleton.mp hx]; exact hs, fun x hx => by rw [List.mem_singleton.mp hx]; exact .refl⟩, by simp, fun j y hj => absurd hj (by simp)⟩ (S1.weak (by repeat' constructor)) (fun x => decide ((x.2 : Int) < ((x.1.map rI).length : Int)))
    (fun x _ => et_val (ev_op (ev_var rfl) (ev_cb (ea_cons (ev_var rfl) ea_nil) (rc_lenM (j := 0) rfl)) rv_I0)) (fun x hx hb σ2 G2 H2 e2 S2 => ?_) (fun x σ2 G2 H2 hx hb e2 S2 => ?_)
  · obtain ⟨F, at_⟩ := x
    obtain ⟨fb, hle, hcl⟩ := hx
    dsimp only at fb hle hcl hb S2
    have hat : at_ < F.length := by have := of_decide_eq_true hb; rw [List.length_map] at this; omega
    obtain ⟨h, hh⟩ : ∃ h, F[at_]? = some h := ⟨_, List.getElem?_eq_getElem hat⟩
    have hF : h ∈ F := List.mem_of_getElem? hh
    have hm : h ∈ mm := fb.sub h hF
    have fle : F.length ≤ mm.length := nodup_le fb.nd fb.sub
    have hln : lookI h (mm.map fun m => (m, rLst ((nbs mm b se m).map rI))) = some (rLst ((nbs mm b se h).map rI)) := look_fn (f := fun m => rLst ((nbs mm b se m).map rI)) hm
    refine st_for (ι := List Int) (ei_list (ev_dget (ev_fldM (ev_var rfl) (j := 2) rfl (cls_Page T) (na_near T) hnear) (ev_op (ev_var rfl) (ev_var rfl) (rv_ixM (j := 0) (k := at_) (rs := F.map rI) (r := rI h) rfl rfl (by rw [List.getElem?_map, hh]; rfl))) hln)) S2 (fun i F' => FndI mm (adj se b) s h F (nbs mm b se h) i F')
      (fun _ => [some (rV (.ref a)), some (rI s), some (rV (.ref d)), some (rV (.ref d2)), some (rN_ at_), none]) (fun F' => [(d2, .lst (F'.map rI)), (d, .dct (F'.map fun m => (m, rSomeI))), (a, .ins (He.ga K "Page") dx fs)]) F
      ⟨fb, ⟨[], (List.append_nil F).symm⟩, fun y hy => by simp at hy⟩ (fun B σ G H S => S) (fun B1 G5 H5 i r F' σ6 G6 H6 e5 hr hx e6 hl un sm S6 => ?_) (fun F' σ6 G6 H6 hx e5 S6 => ?_)
    · rw [List.getElem?_map] at hr
      cases hq : (nbs mm b se h)[i]? with
      | none => rw [hq] at hr; cases hr
      | some y =>
        rw [hq] at hr
        cases hr
        have hy := List.mem_filter.mp (List.mem_of_getElem? hq)
        have fle' : F'.length ≤ mm.length := nodup_le hx.b.nd hx.b.sub
        have hh' : F'[at_]? = some h := by
          obtain ⟨ex, he⟩ := hx.ex
          rw [he, List.getElem?_append_left hat]
          exact hh
        have lkh : lookI h (F'.map fun m => (m, rSomeI)) = some rSomeI := look_fn (f := fun _ => rSomeI) (List.mem_of_getElem? hh')
        refine ⟨_, [5], gm_name (by simp), fun σ7 G7 H7 e7 S7 => ?_⟩
        refine st_ifP (!decide (y ∈ F')) (et_b (et_B (ev_dnotinM (j := 1) (ks := F'.map fun m => (m, rSomeI)) (ev_var rfl) (ev_var rfl) rfl)) (by rw [look_map (g := fun m => m) (f := fun _ => rSomeI), List.map_id'])) S7 fun G8 H8 e8 S8 => ⟨fun hb => ?_, fun hb => ?_⟩
        · have hn : y ∉ F' := by simpa using hb
          refine st_dput (r := rSomeI) (k := y) (j := 1) (ks := F'.map fun m => (m, rSomeI)) (ms3 := [(d2, .lst (F'.map rI)), (d, .dct (F'.map fun m => (m, rSomeI))), (a, .ins (He.ga K "Page") dx fs)]) (ev_op (ev_dgetM (j := 1) (ks := F'.map fun m => (m, rSomeI)) (ev_var rfl) (ev_op (ev_var rfl) (ev_var rfl) (rv_ixM (j := 0) (k := at_) (rs := F'.map rI) (r := rI h) rfl rfl (by rw [List.getElem?_map, hh']; rfl))) rfl lkh) ev_c (rv_exL fun i _ => fun σ G H x y S hx hy Q q => rv_I0 σ G H x y S hx hy Q fun v G' H' e S' hv => q v G' H' e S' ⟨_, trivial, hv⟩)) (ev_var rfl) (ev_var rfl) rfl (by rw [List.length_map]; omega) S8 fun G9 H9 e9 S9 => ?_
          rw [putI_new (fun p hp z => by
            obtain ⟨m', h1, h2⟩ := List.mem_map.mp hp
            subst h2
            exact hn (by rw [← z]; exact h1))] at S9
          refine st_drop (ev_append (j := 0) (rs := F'.map rI) (r := rI y) (ev_var rfl) (ea_cons (ev_var rfl) ea_nil) ⟨0, _, rfl⟩ rfl (by rw [List.length_map]; omega)) S9 fun G10 H10 e10 S10 => ?_
          refine ⟨F' ++ [y], G10, hx.add hF hq hn hy.1 hy.2, ?_⟩
          rw [List.map_append, List.map_append]
          exact S10.weak (by repeat' constructor)
        · have hn : y ∈ F' := by simpa using hb
          exact ⟨F', G8, hx.keep hq hn, S8.weak (by repeat' constructor)⟩
    · rw [List.length_map] at hx
      have nr := hx.nr
      rw [List.take_length] at nr
      have fle' : F'.length ≤ mm.length := nodup_le hx.b.nd hx.b.sub
      obtain ⟨ex, he⟩ := hx.ex
      dsimp only
      refine st_aug (i := 4) (x := (at_ : Int)) (y := 1) rfl ev_c S6 fun σ7 G7 H7 e7 S7 => ?_
      refine ⟨(F', at_ + 1), G7, ⟨hx.b, ?_, fun j y hj hy z hz ha => ?_⟩, ?_, e2.trans (e5.trans e7), S7.weak (by repeat' constructor)⟩
      · show at_ + 1 ≤ F'.length
        rw [he, List.length_append]; omega
      · have hj : j < at_ + 1 := hj
        have hjF : j < F.length := by omega
        have hy : F'[j]? = some y := hy
        by_cases ej : j = at_
        · subst ej
          rw [he, List.getElem?_append_left hjF, hh] at hy
          cases hy
          exact nr z (List.mem_filter.mpr ⟨hz, ha⟩)
        · rw [he, List.getElem?_append_left hjF] at hy
          have := hcl j y (by omega) hy z hz ha
          show z ∈ F'
          rw [he]
          exact List.mem_append_left _ this
      · show mm.length - (at_ + 1) < mm.length - at_
        omega
  · obtain ⟨F, at_⟩ := x
    obtain ⟨fb, hle, hcl⟩ := hx
    dsimp only at fb hle hcl hb S2
    have hat : at_ = F.length := by have := of_decide_eq_false hb; rw [List.length_map] at this; omega
    have S3 := S2.forget
    have nd := S3.mem.nd
    have nda : d ∉ [(a, Cell.ins (He.ga K "Page") dx fs)].map (·.1) := fun hm => by
      have : d = a := by simpa using hm
      subst this
      simp at nd
    obtain ⟨G4, e4, S4⟩ := S3.freezeS (i := 2) ((S3.own _ List.mem_cons_self).resolve_left nda) rfl
    dsimp only
    refine st_retP _ (ev_var rfl) S4 fun v G' H' e S' hv => k _ _ G' H' S' v ⟨F, ⟨fb, fun y hy z hz ha => ?_⟩, hv⟩
    obtain ⟨j, hj, hy⟩ := List.mem_iff_getElem.mp hy
    exact hcl j y (by omega) (by rw [List.getElem?_eq_getElem hj, hy]) z hz ha
structure GrI (mm : List Int) (ad : Int → Int → Bool) (i : Nat) (gs : List (List Int)) (kn : List Int) (kk : List (Int × Rp)) : Prop where
  g : grp mm ad mm [] = gs ++ grp mm ad (mm.drop i) kn
  ke : ∀ x, (lookI x kk).isSome = decide (x ∈ kn)
  kl : kk.length ≤ 100 * i
  gl : gs.length ≤ i
noncomputable abbrev spJoined (K : Fr) : Sp := spF (fun (x : PgX) L => x.ok ∧ L = []) (fun x => [rV (.ref x.a)]) (fun x => x.c K) (fun x => x.c K) (fun x => rTup ((grp x.mm x.ad x.mm []).map rInts))
theorem sc_Page_joined : FnScope ["self", "found", "known", "mark", "group"] ["self"] (defScope s_Page_joined) := ⟨rfl, rfl, rfl, by decide +kernel, rfl, by decide +kernel, by decide +kernel⟩
theorem mt_Page_joined (T : Tx P w K mg base) : Mt P w K mg base 2 (He.ga K "Page") "joined" (spJoined K) := by
  obtain ⟨fd, F⟩ := T.def_ di_Page_joined
  refine ⟨_, T.meth fi_meth_Page_joined, fnR_of F sc_Page_joined (fun _ => rfl) (fun _ _ _ _ _ _ us hl => match us, hl with | [_], _ => rfl) fun cdv A outer s H0 vs Q E hr x L G hp k S => ?_⟩
  have m_Page_distances := mt_Page_distances T
  obtain ⟨ho, rfl⟩ := hp
  have hlen := ho.len
  have hnd : x.mm.Nodup := ho.lt.imp fun h => by omega
  refine ⟨_, (pss_cons (ps_par (i := 1) (j := 2) rfl sc_Page_joined.nd rfl rfl (by decide) rfl rfl (pa_cons (pe_lst pa_nil) (pa_cons pe_dnewK pa_nil)) rfl)
    (pss_cons (ps_for PassesOwn.never rfl (pi_tupK (K := K) (pe_fldK (K := K) (pv 0) rfl)) (pg_name (i := 3) sc_Page_joined.nd rfl (Or.inl rfl))
      (pss_one (ps_if (pt_cmp (pc_dnotin (hu_of hr) (pv 3) (pv 2))) (pss_cons (ps_set (i := 4) sc_Page_joined.nd rfl (Or.inl rfl) (pe_mt (T.cls fi_cls_Page) m_Page_distances hr (by decide) (pv 0) (pa_cons (pv 3) pa_nil)))
    (pss_cons (ps_expr (pe_bmK (K := K) PySem.F.plainAttrs_dict PySem.F.slot_dict_update PySem.F.type_dict_update mt_dupd (pv 2) (pa_cons (pv 4) pa_nil)))
    (pss_one (ps_expr (pe_bmK (K := K) PySem.F.plainAttrs_list PySem.F.slot_list_append PySem.F.type_list_append mt_append (pv 1) (pa_cons (pe_tupleK (K := K) (by rfl) (T.free fi_free_tuple) (pe_callB (id := "sorted") (cr_sortedK (K := K)) (by rfl) (T.free fi_free_sorted) (by decide +kernel) (pa_cons (pe_callTy (T := "list") (call_list_dK rfl) (by rfl) (T.free fi_free_list) (by decide +kernel) (pa_cons (pv 4) pa_nil)) pa_nil))) pa_nil)))))) pss_nil)))
    (pss_one (ps_ret (pe_tupleK (K := K) (by rfl) (T.free fi_free_tuple) (pv 1)))))), ?_⟩
  try dsimp only [L2.cxOf]
  refine st_parLD S fun d d2 σ1 G1 H1 e1 S1 => ?_
  dsimp only
  refine st_for (ι := Nat × List (List Int) × List Int × List (Int × Rp)) (ei_tup (ev_fldM (ev_var rfl) (j := 2) rfl (cls_Page T) (na_pmarks T) ho.marks)) S1 (fun i y => y.1 = i ∧ GrI x.mm x.ad i y.2.1 y.2.2.1 y.2.2.2)
    (fun _ => [some (rV (.ref x.a)), some (rV (.ref d)), some (rV (.ref d2)), none, none]) (fun y => [(d2, .dct y.2.2.2), (d, .lst (y.2.1.map rInts)), (x.a, .ins (He.ga K "Page") x.dx x.fs)]) (0, [], [], []) ⟨rfl, rfl, fun x => rfl, by simp, by simp⟩ (fun B σ G H S => S) (fun B1 G4 H4 i r y σ5 G5 H5 e4 hr hy e5 hl un sm S5 => ?_) (fun y σ5 G5 H5 hy e4 S5 => ?_)
  · obtain ⟨i', gs, kn, kk⟩ := y
    obtain ⟨rfl, hI⟩ := hy
    dsimp only at hI S5 hr
    rw [List.getElem?_map] at hr
    cases hq : x.mm[i']? with
    | none => rw [hq] at hr; cases hr
    | some m =>
      rw [hq] at hr
      cases hr
      have hm : m ∈ x.mm := List.mem_of_getElem? hq
      have hlt : i' < x.mm.length := (List.getElem?_eq_some_iff.mp hq).1
      have hg := hI.g
      rw [drop_at hq, grp_step] at hg
      have kl := hI.kl
      have gl := hI.gl
      refine ⟨_, [3], gm_name (by simp), fun σ6 G6 H6 e6 S6 => ?_⟩
      refine st_ifP (!decide (m ∈ kn)) (et_b (et_B (ev_dnotinM (j := 0) (ks := kk) (ev_var rfl) (ev_var rfl) rfl)) (by rw [hI.ke])) S6 fun G7 H7 e7 S7 => ⟨fun hb => ?_, fun hb => ?_⟩
      · have hn : m ∉ kn := by simpa using hb
        rw [if_neg hn] at hg
        refine st_setP (i := 4) (rEx (fun F => Fnd x.mm x.ad m F ∧ ∀ y ∈ F, ∀ z ∈ x.mm, x.ad y z = true → z ∈ F) rFound) (ev_mtM0 (rs := fun x : PgX × Int => rEx (fun F => Fnd x.1.mm x.1.ad x.2 F ∧ ∀ y ∈ F, ∀ z ∈ x.1.mm, x.1.ad y z = true → z ∈ F) rFound) (ls := [rI m]) (x, m) 2 2 (ev_var rfl) rfl ho.dn (ea_cons (ev_var rfl) ea_nil) rfl rfl ⟨ho, hm⟩ rfl rfl) S7 fun σ8 G8 H8 e8 S8 => ?_
        obtain ⟨F, ⟨fb, fcl⟩, S8⟩ := S8.open_ (i := 4) rfl
        have fle : F.length ≤ x.mm.length := nodup_le fb.nd fb.sub
        dsimp only
        refine st_drop (ev_dupd (j := 0) (ks := kk) (more := F.map fun m => (m, rSomeI)) (ev_var rfl) (ea_cons (ev_var rfl) ea_nil) ⟨0, _, rfl⟩ rfl (by rw [List.length_map]; omega)) S8 fun G9 H9 e9 S9 => ?_
        dsimp only
        have tup : ∀ {B : Bs} {ctx : Ct} {ms : Ms}, ctx[4]? = some (some (rFound F)) → EvM B [] (tThen (tCB (rSortedI K) (tCons (tCB rListD (tCons (tVar 4) tNil)) tNil)) (kTup K)) ctx ms (rInts (comp x.mm x.ad m)) ms := fun {B ctx ms} h => by
          refine ev_tupOfL (ev_imp (ev_cb (ea_cons (ev_is (r2 := rLst (F.map rI)) (ev_cb (ea_cons (ev_var h) ea_nil) rc_listD) (by rw [List.map_map]; rfl)) ea_nil) (rc_sortedL (ns := F))) fun v G ⟨ns, ⟨p1, p2⟩, hv⟩ => ?_)
          rw [comp_uniq ho.lt hm fb.nd fb.s0 fb.rc fcl p1 p2] at hv
          exact hv
        refine st_drop (ev_append (j := 1) (rs := gs.map rInts) (r := rInts (comp x.mm x.ad m)) (ms2 := [(d2, .dct (mergeI kk (F.map fun m => (m, rSomeI)))), (d, .lst (gs.map rInts)), (x.a, .ins (He.ga K "Page") x.dx x.fs)]) (ev_var rfl) (ea_cons (tup rfl) ea_nil) ⟨1, _, rfl⟩ rfl (by rw [List.length_map]; omega)) S9 fun G10 H10 e10 S10 => ?_
        have ml := mergeI_len (more := F.map fun m => (m, rSomeI)) (ks := kk)
        rw [List.length_map] at ml
        refine ⟨(i' + 1, gs ++ [comp x.mm x.ad m], kn ++ comp x.mm x.ad m, mergeI kk (F.map fun m => (m, rSomeI))), G10, ⟨rfl, ⟨by rw [hg, List.append_assoc]; rfl, fun y => ?_, ?_, by rw [List.length_append]; simp; omega⟩⟩, ?_⟩
        · show (lookI y (mergeI kk _)).isSome = _
          rw [mergeI_look, hI.ke, List.map_map, ← Bool.decide_or]
          refine decide_eq_decide.mpr ?_
          rw [List.mem_append]
          refine or_congr Iff.rfl ?_
          rw [show F.map (Prod.fst ∘ fun m => (m, rSomeI)) = F from List.map_id' F]
          exact fb.mem fcl hm
        · show (mergeI kk _).length ≤ _
          omega
        · dsimp only
          rw [List.map_append (l₁ := gs)]
          exact S10.weak (by repeat' constructor)
      · have hn : m ∈ kn := by simpa using hb
        rw [if_pos hn] at hg
        exact ⟨(i' + 1, gs, kn, kk), G7, ⟨rfl, ⟨hg, hI.ke, by show kk.length ≤ _; omega, by show gs.length ≤ _; omega⟩⟩, S7.weak (by repeat' constructor)⟩
  · obtain ⟨i', gs, kn, kk⟩ := y
    obtain ⟨rfl, hI⟩ := hy
    dsimp only at hI S5
    have hg := hI.g
    rw [List.length_map, List.drop_length] at hg
    have hg : grp x.mm x.ad x.mm [] = gs := by rw [hg]; show gs ++ [] = gs; rw [List.append_nil]
    dsimp only
    refine st_retP (rTup ((grp x.mm x.ad x.mm []).map rInts)) ?_ S5 fun v G' H' e S' hv => k _ _ G' H' S'.forget.forget v hv
    rw [hg]
    exact ev_tupOfM (j := 1) (ev_var rfl) rfl
end
end K62
set_option maxHeartbeats 4000000
/-! K62Ds: a page behind another. -/
namespace K62
open PySem PySem.Spec PyProof.Rows L2
local macro_rules | `(tactic| walk_at "ev") => `(tactic| repeat' (first
  | ((with_reducible apply ev_var); exact rfl)
  | with_reducible exact ev_c
  | with_reducible exact ea_nil
  | with_reducible exact et_yes
  | with_reducible exact rv_I0
  | with_reducible exact eo_none
  | with_reducible apply eo_some
  | with_reducible apply ea_cons
  | with_reducible apply ev_op
  | (with_reducible apply ev_andV <;> try intro _)
  | (with_reducible apply ev_orV <;> try intro _)
  | with_reducible apply ev_notV
  | with_reducible apply ev_tup
  | with_reducible apply ev_lst
  | with_reducible apply ev_neg
  | with_reducible apply ev_cb
  | with_reducible apply et_B
  | with_reducible apply et_val
  | with_reducible apply et_not
  | (with_reducible apply et_and <;> try intro _)
  | (with_reducible apply et_or <;> try intro _)
  | with_reducible apply ev_call
  | with_reducible apply ev_fld
  | with_reducible exact cls_Cutter (by assumption)
  | with_reducible exact cls_Rule (by assumption)
  | with_reducible exact cls_Page (by assumption)
  | with_reducible exact cls_Inbox (by assumption)
  | with_reducible exact na_parts (by assumption)
  | with_reducible exact na_tables (by assumption)
  | with_reducible exact na_whole (by assumption)
  | with_reducible exact na_cutter (by assumption)
  | with_reducible exact na_sees (by assumption)
  | with_reducible exact na_rule (by assumption)
  | with_reducible exact na_pmarks (by assumption)
  | with_reducible exact na_letters (by assumption)
  | with_reducible exact na_bound (by assumption)
  | with_reducible exact na_shown (by assumption)
  | with_reducible exact na_moves (by assumption)
  | with_reducible exact na_near (by assumption)
  | with_reducible exact na_groups (by assumption)
  | with_reducible exact na_pages (by assumption)
  | with_reducible exact na_version (by assumption)
  | with_reducible exact na_marks (by assumption)
  | with_reducible exact isi_str (by assumption)
  | with_reducible exact isi_int (by assumption)
  | with_reducible exact isi_intbool (by assumption)
  | with_reducible exact isi_bool (by assumption)
  | with_reducible exact isi_tup (by assumption)
  | with_reducible exact isi_Cutter (by assumption)
  | with_reducible exact isi_Rule (by assumption)
  | with_reducible exact isi_Inbox (by assumption)
  | with_reducible exact rc_lenT
  | with_reducible exact rc_lenL
  | with_reducible apply rc_lenS
  | with_reducible exact rc_abs
  | with_reducible exact rc_max
  | with_reducible exact rc_min
  | with_reducible exact rc_int
  | with_reducible exact rc_intB
  | with_reducible exact rv_inSign
  | with_reducible exact rv_inT
  | with_reducible exact rv_inL
  | with_reducible exact rv_ninL
  | with_reducible exact rv_ixT0
  | with_reducible exact rv_ixT1
  | with_reducible exact rv_ixT2
  | with_reducible exact rv_ixT3
  | with_reducible exact rv_ixL0
  | with_reducible exact rv_ixL1
  | with_reducible exact rv_ixL2))
theorem AlF.re {r' : Rp} {f : Str} {v : V} {G : Hp} (hv : r'.ok v G) : ∀ {fs : List (Str × Rp)} {gs : List (Str × V)}, AlF fs gs G → gs.lookup f = some v → AlF (putR f r' fs) gs G
  | _, _, .nil, h => by cases h
  | (g, x) :: t, (g', y) :: t', .cons ⟨h1, h2⟩ q, h => by
    have h1 : g' = g := h1
    subst h1
    show AlF (if g' = f then _ else _) _ G
    rw [List.lookup_cons] at h
    by_cases e : g' = f
    · subst e
      rw [beq_self_eq_true] at h
      cases h
      rw [if_pos rfl]
      exact .cons ⟨rfl, hv⟩ q
    · have : (f == g') = false := beq_eq_false_iff_ne.mpr fun z => e z.symm
      rw [this] at h
      rw [if_neg e]
      exact .cons ⟨rfl, h2⟩ (AlF.re hv q h)
/-- an instance's dict, named -/
theorem rIns_at {C : Addr} {fs : List (Str × Rp)} {f : Str} {ks : List (Int × Rp)} {v : V} {G : Hp} (hf : fs.lookup f = some (rDct ks)) (h : (rIns C fs).ok v G) : ∃ d, (∃ kvs, G d = some (.dK kvs)) ∧ (rIns C (putR f (rDctAt d ks) fs)).ok v G := by
  obtain ⟨a, dx, gs, e, ha, hal⟩ := h
  obtain ⟨w, h1, h2⟩ := hal.look hf
  obtain ⟨d, h3, h4⟩ := rDct_at h2
  exact ⟨d, h3, a, dx, gs, e, ha, hal.re h4 h1⟩
section
variable {B : Bs} {L : List Addr} {ctx : Ct} {ms ms1 : Ms} {σ : L2.St} {G H : Hp}
/-- .. a cell's dict -/
theorem turns_fld {a C dx : Addr} {fs : List (Str × Rp)} {f : Str} {ks : List (Int × Rp)} {j : Nat} (hj : ms[j]? = some (a, .ins C dx fs)) (hf : fs.lookup f = some (rDct ks)) : Turns ctx ms (fun _ => ctx) (fun d => ms.set j (a, .ins C dx (putR f (rDctAt d ks) fs))) := ⟨fun {B σ G H} S => by
  have c : CAt a G H (.ins C dx fs) := S.mem.at_ _ (List.mem_of_getElem? hj)
  cases c with
  | @ins _ _ _ gs ha hal =>
    obtain ⟨w, h1, h2⟩ := hal.look hf
    obtain ⟨d, h3, h4⟩ := rDct_at h2
    have hu : upd H a (.ins C dx gs) = H := by
      funext b
      by_cases e : b = a
      · subst e; rw [upd_same, ha]
      · rw [upd_ne e]
    have s := S.put (o := .ins C dx gs) (c' := .ins C dx (putR f (rDctAt d ks) fs)) hj (.ins upd_same (hal.re h4 h1))
    rw [hu] at s
    exact ⟨d, h3, s⟩⟩
/-- a cell's fields, otherwise told -/
theorem Sx.tell {a C dx : Addr} {fs fs' : List (Str × Rp)} {j : Nat} (S : Sx B L ctx ms σ G H) (hj : ms[j]? = some (a, .ins C dx fs)) (h : ∀ gs, AlF fs gs G → AlF fs' gs G) : Sx B L ctx (ms.set j (a, .ins C dx fs')) σ G H := by
  have c : CAt a G H (.ins C dx fs) := S.mem.at_ _ (List.mem_of_getElem? hj)
  cases c with
  | @ins _ _ _ gs ha hal =>
    have hu : upd H a (.ins C dx gs) = H := by
      funext b
      by_cases e : b = a
      · subst e; rw [upd_same, ha]
      · rw [upd_ne e]
    have s := S.put (o := .ins C dx gs) (c' := .ins C dx fs') hj (.ins upd_same (h gs hal))
    rw [hu] at s
    exact s
end
theorem lookR {f g : Str} {r : Rp} : ∀ {fs : List (Str × Rp)}, f ≠ g → (putR f r fs).lookup g = fs.lookup g
  | [], h => by
    show List.lookup g [(f, r)] = _
    rw [List.lookup_cons, beq_eq_false_iff_ne.mpr (Ne.symm h)]
  | (k, x) :: t, h => by
    show List.lookup g (if k = f then _ else _) = _
    by_cases e : k = f
    · subst e
      rw [if_pos rfl, List.lookup_cons, List.lookup_cons, beq_eq_false_iff_ne.mpr (Ne.symm h)]
    · rw [if_neg e, List.lookup_cons, List.lookup_cons, lookR (fs := t) h]
theorem lookR_same {f : Str} {r r0 : Rp} : ∀ {fs : List (Str × Rp)}, fs.lookup f = some r0 → (putR f r fs).lookup f = some r
  | [], h => by cases h
  | (k, x) :: t, h => by
    show List.lookup f (if k = f then _ else _) = _
    rw [List.lookup_cons] at h
    by_cases e : k = f
    · subst e
      rw [if_pos rfl, List.lookup_cons, beq_self_eq_true]
    · rw [if_neg e, List.lookup_cons, beq_eq_false_iff_ne.mpr (Ne.symm e)]
      rw [beq_eq_false_iff_ne.mpr (Ne.symm e)] at h
      exact lookR_same h
section
variable {P : Program} {w : World} {K : PySem.W.Frag} {mg : Str → Option Value} {base : Heap}
structure BhX where
  a : Addr
  dx : Addr
  d : Addr
  fs : List (Str × Rp)
  h : List Ent
  f : Ent
  e : Ent
abbrev BhX.hh (x : BhX) : List Ent := x.h ++ [x.f]
noncomputable abbrev rMoves (h : List Ent) (e : Ent) : List (Int × Rp) := (marks e.ls).map fun m => (m, rN_ (mvs h m))
structure BhX.ok (x : BhX) : Prop where
  g : okH x.hh
  e : okLs x.e.ls
  le : ∀ m ∈ marks x.f.ls, m ∈ marks x.e.ls
  mv : x.fs.lookup ("own_moves" : Str) = some (rV (.ref x.d))
  sh : x.fs.lookup ("own_shown" : Str) = some (rDct ((marks x.e.ls).map fun m => (m, rOpt (plc x.e m))))
theorem lastE_snoc {h : List Ent} {f : Ent} : lastE (h ++ [f]) = f := by
  unfold lastE
  rw [List.getLast?_append]
  rfl
noncomputable abbrev spBehind (K : Fr) : Sp := spF (fun (x : BhX) L => x.ok ∧ L = []) (fun x => [rV (.ref x.a), rPage K x.hh])
  (fun x => [(x.a, .ins (He.ga K "Page") x.dx x.fs), (x.d, .dct ((marks x.e.ls).map fun m => (m, rN_ 0)))]) (fun x => [(x.a, .ins (He.ga K "Page") x.dx x.fs), (x.d, .dct (rMoves (x.hh ++ [x.e]) x.e))]) (fun _ => rN)
noncomputable abbrev pgG (K : Fr) (e : Ent) (h : List Ent) (r : Rp) : List (Str × Rp) :=
  [("own_rule", rRule K e.ps e.se), ("own_marks", rInts (marks e.ls)), ("own_letters", rLet (srt e.ls)), ("own_bound", rDct ((marks e.ls).map fun m => (m, rInts (bd e m)))),
    ("own_shown", rDct ((marks e.ls).map fun m => (m, rOpt (plc e m)))), ("own_moves", r), ("own_near", rAny), ("own_groups", rTup ((groups e).map rInts))]
theorem page_at {K : Fr} {h : List Ent} {f : Ent} {v : V} {G : Hp} (q : (rPage K (h ++ [f])).ok v G) : ∃ d, (∃ kvs, G d = some (.dK kvs)) ∧ (rIns (He.ga K "Page") (pgG K f (h ++ [f]) (rDctAt d (rMoves (h ++ [f]) f)))).ok v G := by
  have e : rPage K (h ++ [f]) = rIns (He.ga K "Page") (pgG K f (h ++ [f]) (rDct (rMoves (h ++ [f]) f))) := by
    show rIns _ (pageF K (h ++ [f])) = _
    unfold pageF
    rw [lastE_snoc]
  rw [e] at q
  exact rIns_at (f := "own_moves") rfl q
theorem mvs_now {h : List Ent} {f e : Ent} (g : Grow (h ++ [f])) {m : Int} (hm : m ∉ marks f.ls) : mvs (h ++ [f] ++ [e]) m = 0 := mvs_new fun a ha hx => by
  rcases List.mem_append.mp ha with q | q
  · exact hm ((List.pairwise_append.mp g).2.2 a q f (List.mem_singleton.mpr rfl) m hx)
  · rw [List.mem_singleton.mp q] at hx; exact hm hx
theorem sc_Page_behind : FnScope ["self", "page", "mark", "many"] ["self", "page"] (defScope s_Page_behind) := ⟨rfl, rfl, rfl, by decide +kernel, rfl, by decide +kernel, by decide +kernel⟩
theorem mt_Page_behind (T : Tx P w K mg base) : Mt P w K mg base 1 (He.ga K "Page") "behind" (spBehind K) := by
  obtain ⟨fd, F⟩ := T.def_ di_Page_behind
  refine ⟨_, T.meth fi_meth_Page_behind, fnR_of F sc_Page_behind (fun _ => rfl) (fun _ _ _ _ _ _ us hl => match us, hl with | [_, _], _ => rfl) fun cdv A outer s H0 vs Q E hr z L G hp k S => ?_⟩
  obtain ⟨a, dx, d, fs, h, f, e⟩ := z
  obtain ⟨⟨hg, he, hle, hmv, hsh⟩, rfl⟩ := hp
  dsimp only [BhX.hh] at hg he hle hmv hsh k
  have hfl : okLs f.ls := (hg.ok f (by simp)).ls
  have hfn := marks_nd hfl.nd
  have fl := okLs_small hfl
  have el := okLs_small he
  refine ⟨_, (pss_one (ps_lock (ps_for PassesOwn.never rfl (pi_items (pe_fldK (K := K) (pv 1) rfl)) (pg_tupK (K := K) (n := 2) rfl (pgs_cons (pg_name (i := 2) sc_Page_behind.nd rfl (Or.inl rfl)) (pgs_cons (pg_name (i := 3) sc_Page_behind.nd rfl (Or.inl rfl)) pgs_nil)))
      (pss_one (ps_dput (hu_of hr) (pe_fldK (K := K) (pv 0) rfl) (pv 2) (pe_op op_add (pv 3) (pe_callTy (T := "int") call_int1 (by rfl) (T.free fi_free_int) (by decide +kernel) (pa_cons (pe_cmpR op_ne (pe_dget (hu_of hr) (pe_fldK (K := K) (pv 0) rfl) (pv 2) (fun _ _ => rfl)) (pe_dget (hu_of hr) (pe_fldK (K := K) (pv 1) rfl) (pv 2) (fun _ _ => rfl)) (nomark _)) pa_nil))) rfl))))), ?_⟩
  try dsimp only [L2.cxOf]
  refine st_lock (turns_slot (i := 1) (r := rPage K (h ++ [f])) (r' := fun d' => rIns (He.ga K "Page") (pgG K f (h ++ [f]) (rDctAt d' (rMoves (h ++ [f]) f)))) rfl fun v G q => page_at q) S fun d' kvs o hd' S1 S1' => ?_
  refine st_for (ι := Nat) (ei_items (ev_fld (ev_var rfl) (cls_Page T) (na_moves T) rfl)) S1' (fun i j => j = i)
    (fun _ => [some (rV (.ref a)), some (rIns (He.ga K "Page") (pgG K f (h ++ [f]) (rDctAt d' (rMoves (h ++ [f]) f)))), none, none])
    (fun i => [(a, .ins (He.ga K "Page") dx fs), (d, .dct ((marks e.ls).map fun m => (m, rN_ (if m ∈ (marks f.ls).take i then mvs (h ++ [f] ++ [e]) m else 0))))]) 0 rfl (fun B σ G H S => S) (fun B1 G4 H4 i r i' σ5 G5 H5 e4 hr hy e5 hl un sm S5 => ?_) (fun i' σ5 G5 H5 hy e4 S5 => ?_)
  · subst hy
    rw [List.map_map, List.getElem?_map] at hr
    cases hq : (marks f.ls)[i']? with
    | none => rw [hq] at hr; cases hr
    | some m =>
      rw [hq] at hr
      cases hr
      have hm : m ∈ marks f.ls := List.mem_of_getElem? hq
      have hme := hle m hm
      refine ⟨_, [2, 3], gm_tup2 (r1 := rI m) (r2 := rN_ (mvs (h ++ [f]) m)) (by simp) (by simp), fun σ6 G6 H6 e6 S6 => ?_⟩
      refine st_dput (r := rN_ (mvs (h ++ [f] ++ [e]) m)) (k := m) (j := 1) (ks := (marks e.ls).map fun m => (m, rN_ (if m ∈ (marks f.ls).take i' then mvs (h ++ [f] ++ [e]) m else 0)))
        (ms3 := [(a, .ins (He.ga K "Page") dx fs), (d, .dct ((marks e.ls).map fun m => (m, rN_ (if m ∈ (marks f.ls).take i' then mvs (h ++ [f] ++ [e]) m else 0))))]) ?_ (ev_fldM (j := 0) (ev_var rfl) rfl (cls_Page T) (na_moves T) hmv) (ev_var rfl) rfl (by rw [List.length_map]; omega) S6 fun G7 H7 e7 S7 => ?_
      · refine ev_is (ev_op (ev_var rfl) (ev_cb (ea_cons (ev_op (ev_dget (ev_fldM (j := 0) (ev_var rfl) rfl (cls_Page T) (na_shown T) hsh) (ev_var rfl) (look_fn (f := fun m => rOpt (plc e m)) hme)) (ev_dget (ev_fld (ev_var rfl) (cls_Page T) (na_shown T) rfl) (ev_var rfl) (look_fn (f := fun m => rOpt (plc f m)) hm)) (rv_ne (oV_scal _ _))) ea_nil) rc_intB) rv_I0) ?_
        rw [mvs_step hm hme, oV_eq]
        refine congrArg (fun z => rV (.int z)) ?_
        by_cases q : plc e m = plc f m
        · rw [if_pos (c := plc f m = plc e m) q.symm, decide_eq_true q]
          rfl
        · rw [if_neg (c := plc f m = plc e m) fun z => q z.symm, decide_eq_false q]
          rfl
      · refine ⟨i' + 1, G7, rfl, ?_⟩
        rw [put_fn (f := fun m => rN_ (if m ∈ (marks f.ls).take i' then mvs (h ++ [f] ++ [e]) m else 0)) hme] at S7
        have ec : ((marks e.ls).map fun m' => (m', if m' = m then rN_ (mvs (h ++ [f] ++ [e]) m) else rN_ (if m' ∈ (marks f.ls).take i' then mvs (h ++ [f] ++ [e]) m' else 0))) = (marks e.ls).map fun m' => (m', rN_ (if m' ∈ (marks f.ls).take (i' + 1) then mvs (h ++ [f] ++ [e]) m' else 0)) := by
          refine List.map_congr_left fun m' _ => ?_
          rw [take_at hq]
          by_cases q : m' = m
          · subst q; simp
          · simp [q]
        rw [ec] at S7
        exact S7.weak (by repeat' constructor)
  · subst hy
    rw [List.map_map, List.length_map, List.take_length] at S5
    obtain ⟨z1, z2⟩ := S1.unlock hd' S5
    have ec : ((marks e.ls).map fun m => (m, rN_ (if m ∈ marks f.ls then mvs (h ++ [f] ++ [e]) m else 0))) = rMoves (h ++ [f] ++ [e]) e := by
      refine List.map_congr_left fun m _ => ?_
      by_cases q : m ∈ marks f.ls
      · rw [if_pos q]
      · rw [if_neg q, mvs_now hg.gr q]
    rw [ec] at z2
    exact ⟨z1, k _ _ G5 _ z2 .non rfl⟩
end
end K62
set_option maxHeartbeats 4000000
/-! K62Ez: families of cells. -/
namespace K62
open PySem PySem.Spec PyProof.Rows L2
theorem set_map {α β : Type} [DecidableEq α] {g : α → β} {y : β} {o : α} : ∀ {os : List α} {j : Nat}, os.Nodup → os[j]? = some o → (os.map g).set j y = os.map fun o' => if o' = o then y else g o'
  | x :: t, 0, h, e => by
    have e : x = o := by simpa using e
    subst e
    obtain ⟨h1, h2⟩ := List.nodup_cons.mp h
    show y :: t.map g = (if x = x then y else g x) :: t.map _
    rw [if_pos rfl]
    congr 1
    refine List.map_congr_left fun z hz => ?_
    rw [if_neg fun q => h1 (by rw [← q]; exact hz)]
  | x :: t, j + 1, h, e => by
    obtain ⟨h1, h2⟩ := List.nodup_cons.mp h
    have e : t[j]? = some o := by simpa using e
    have ne : x ≠ o := fun q => h1 (by rw [q]; exact List.mem_of_getElem? e)
    show g x :: (t.map g).set j y = (if x = o then y else g x) :: t.map _
    rw [if_neg ne, set_map h2 e]
theorem map_snoc_if {α β : Type} [DecidableEq α] {f : α → β} {y : β} {o : α} {os : List α} (h : o ∉ os) : (os ++ [o]).map (fun o' => if o' = o then y else f o') = os.map f ++ [y] := by
  rw [List.map_append]
  congr 1
  · refine List.map_congr_left fun z hz => ?_
    rw [if_neg fun q => h (by rw [← q]; exact hz)]
  · simp
theorem AlF.un {d : Addr} {ks : List (Int × Rp)} {f : Str} {G : Hp} : ∀ {fs : List (Str × Rp)} {gs : List (Str × V)}, fs.lookup f = some (rDct ks) → AlF (putR f (rDctAt d ks) fs) gs G → AlF fs gs G
  | [], _, h, _ => by cases h
  | (g, x) :: t, gs, h, q => by
    rw [List.lookup_cons] at h
    by_cases e : g = f
    · subst e
      rw [beq_self_eq_true] at h
      cases h
      have q : AlF (if g = g then (g, rDctAt d ks) :: t else _) gs G := q
      rw [if_pos rfl] at q
      cases q with
      | cons h1 h2 => exact .cons ⟨h1.1, rDctAt_to h1.2⟩ h2
    · have q : AlF (if g = f then _ else (g, x) :: putR f (rDctAt d ks) t) gs G := q
      rw [if_neg e] at q
      rw [beq_eq_false_iff_ne.mpr fun z => e z.symm] at h
      cases q with
      | cons h1 h2 => exact .cons h1 (AlF.un h h2)
section
variable {B : Bs} {L : List Addr} {ctx : Ct} {ms ms1 : Ms} {te : TE} {r : Rp} {rs : List Rp} {K : PySem.W.Frag} {D : Ends} {σ : L2.St} {G H : Hp} {Q : VK}
/-- x = {} -/
theorem st_dnew {i : Nat} (S : Sx B L ctx ms σ G H) (k : ∀ d σ' G' H', Same G G' → Sx B L (ctx.set i (some (rV (.ref d)))) ((d, .dct []) :: ms) σ' G' H' → D.nx σ' H') : tAsg tDNewK (gName i) D σ H := fun p hp =>
  k p _ G _ (Same.refl G) ((S.newM hp (.dct upd_same .nil)).set rfl)
/-- many cells frozen -/
theorem Sx.freezeAll : ∀ {xs : Ms} {G : Hp}, Sx B L ctx (xs ++ ms) σ G H → (∀ p ∈ xs, B.H p.1 = none) → ∃ G', Same G G' ∧ Sx B L ctx ms σ G' H ∧ ∀ p ∈ xs, p.2.rp.ok (.ref p.1) G'
  | [], G, S, _ => ⟨G, Same.refl G, S, by simp⟩
  | (a, c) :: xs, G, S, h => by
    obtain ⟨G1, e1, S1, h1⟩ := Sx.freeze (a := a) (c := c) (ms := xs ++ ms) S (h (a, c) List.mem_cons_self)
    obtain ⟨G2, e2, S2, h2⟩ := Sx.freezeAll S1 fun p hp => h p (List.mem_cons_of_mem _ hp)
    refine ⟨G2, e1.trans e2, S2, fun p hp => ?_⟩
    rcases List.mem_cons.mp hp with q | q
    · subst q; exact c.rp.mono e2 h1
    · exact h2 p q
/-- a dict's cell, otherwise told -/
theorem Sx.tellD {d : Addr} {ks ks' : List (Int × Rp)} {j : Nat} (S : Sx B L ctx ms σ G H) (hj : ms[j]? = some (d, .dct ks)) (h : ∀ xs, AlK ks xs G → AlK ks' xs G) : Sx B L ctx (ms.set j (d, .dct ks')) σ G H := by
  have c : CAt d G H (.dct ks) := S.mem.at_ _ (List.mem_of_getElem? hj)
  cases c with
  | @dct _ xs ha hal =>
    have hu : upd H d (.dK xs) = H := by
      funext b
      by_cases e : b = d
      · subst e; rw [upd_same, ha]
      · rw [upd_ne e]
    have s := S.put (o := .dK xs) (c' := .dct ks') hj (.dct upd_same (h xs hal))
    rw [hu] at s
    exact s
abbrev cellsL (c : Int → Addr) (l : Int → List Int) (os : List Int) : Ms := os.map fun o => (c o, Cell.lst ((l o).map rI))
abbrev refsD (c : Int → Addr) (os : List Int) : List (Int × Rp) := os.map fun o => (o, rV (.ref (c o)))
/-- f.setdefault(o, []).append(m) -/
theorem ev_setdApp {F : Addr} {os : List Int} {c : Int → Addr} {l : Int → List Int} {o m : Int} {self : Addr × Cell} {vf vo vm : Nat} (hF : ctx[vf]? = some (some (rV (.ref F)))) (hO : ctx[vo]? = some (some (rI o))) (hM : ctx[vm]? = some (some (rI m)))
    (S : Sx B L ctx (self :: (F, .dct (refsD c os)) :: cellsL c l os) σ G H) (nd : os.Nodup) (hl : os.length < 100000) (hll : ∀ o ∈ os, (l o).length < 100000)
    (k1 : o ∈ os → ∀ G' H', Same G G' → Sx B L ctx (self :: (F, .dct (refsD c os)) :: cellsL c (fun o' => if o' = o then l o ++ [m] else l o') os) σ G' H' → Q .non H')
    (k2 : o ∉ os → ∀ q G' H', Same G G' → Sx B L ctx (self :: (F, .dct (refsD (fun o' => if o' = o then q else c o') (os ++ [o]))) :: cellsL (fun o' => if o' = o then q else c o') (fun o' => if o' = o then [m] else l o') (os ++ [o])) σ G' H' → Q .non H') :
    tBM K "list" rAppend (tDSetd (tVar vf) (tVar vo) (tLst tNil)) (tCons (tVar vm) tNil) σ H Q := by
  unfold tBM tDSetd
  dsimp only
  refine ev_var hF σ G H S _ fun x G1 H1 e1 S1 hx => ?_
  have hx : x = .ref F := hx
  subst hx
  have cF : CAt F G1 H1 (.dct (refsD c os)) := S1.mem.at_ (F, .dct (refsD c os)) (by simp)
  have isd : ∃ kvs, H1 F = some (.dK kvs) := by cases cF with | @dct _ kvs ha _ => exact ⟨kvs, ha⟩
  refine ⟨F, rfl, ?_, ev_var hO σ G1 H1 S1 _ fun y G2 H2 e2 S2 hy => ⟨by decide, fun q hq => ?_⟩⟩
  · obtain ⟨kvs, h⟩ := isd; exact .inl ⟨kvs, .inl h⟩
  have hy : y = .int o := hy
  subst hy
  have S3 := S2.newM (c := .lst []) hq (.lst upd_same .nil)
  have cF3 : CAt F G2 (upd H2 q (.lst [])) (.dct (refsD c os)) := S3.mem.at_ (F, .dct (refsD c os)) (by simp)
  cases cF3 with
  | @dct _ kvs ha hal =>
    have lk := hal.look (k := o)
    refine ⟨kvs, Sum.inl o, ha, rfl, line_lt (by rw [← Paired.length hal, List.length_map]; exact hl), fun v hv => ?_, fun hn => ?_⟩
    · have ho : o ∈ os := by
        cases Decidable.em (o ∈ os) with
        | inl h => exact h
        | inr h =>
          have : lookI o (refsD c os) = none := by
            have z := look_map (g := fun m : Int => m) (f := fun o => rV (.ref (c o))) (k := o) (l := os)
            rw [List.map_id', decide_eq_false h] at z
            exact Option.not_isSome_iff_eq_none.mp (by rw [z]; simp)
          rw [this] at lk
          rw [lk] at hv
          cases hv
      rw [look_fn (f := fun o => rV (.ref (c o))) ho] at lk
      obtain ⟨v', h1, h2⟩ := lk
      rw [h1] at hv
      cases hv
      have h2 : v = .ref (c o) := h2
      subst h2
      obtain ⟨j, hj0, hj1⟩ := List.mem_iff_getElem.mp ho
      have hj : os[j]? = some o := by rw [List.getElem?_eq_getElem hj0, hj1]
      have hc : (self :: (F, Cell.dct (refsD c os)) :: cellsL c l os)[j + 2]? = some (c o, .lst ((l o).map rI)) := by
        show (cellsL c l os)[j]? = _
        rw [List.getElem?_map, hj]; rfl
      refine ev_append (te := tC (.ref (c o))) (j := j + 2) (r := rI m) ev_c (ea_cons (ev_var hM) ea_nil) ⟨_, _, hc⟩ hc (by rw [List.length_map]; exact hll o ho) σ G2 _ S3.forget Q fun v G' H' e S' hv => ?_
      have hv : v = .non := hv
      subst hv
      refine k1 ho G' H' (e1.trans (e2.trans e)) ?_
      have es : (self :: (F, Cell.dct (refsD c os)) :: cellsL c l os).set (j + 2) (c o, .lst ((l o).map rI ++ [rI m])) = self :: (F, .dct (refsD c os)) :: cellsL c (fun o' => if o' = o then l o ++ [m] else l o') os := by
        show self :: (F, Cell.dct (refsD c os)) :: (cellsL c l os).set j _ = _
        rw [set_map nd hj]
        congr 2
        refine List.map_congr_left fun z _ => ?_
        by_cases e : z = o
        · subst e; simp
        · simp [e]
      rw [es] at S'
      exact S'
    · have ho : o ∉ os := fun h => by
        rw [look_fn (f := fun o => rV (.ref (c o))) h] at lk
        obtain ⟨v', h1, _⟩ := lk
        rw [h1] at hn
        cases hn
      have S4 := S3.put (j := 2) (a := F) (c := .dct (refsD c os)) (o := .dK (putK kvs (Sum.inl o) (.ref q))) (c' := .dct (putI o (rV (.ref q)) (refsD c os))) rfl (.dct upd_same (hal.put rfl))
      rw [putI_new (fun p hp z => by
        obtain ⟨m', h1, h2⟩ := List.mem_map.mp hp
        subst h2
        exact ho (by rw [← z]; exact h1))] at S4
      refine ev_append (te := tC (.ref q)) (j := 0) (r := rI m) ev_c (ea_cons (ev_var hM) ea_nil) ⟨0, _, rfl⟩ rfl (by simp) σ G2 _ S4 Q fun v G' H' e S' hv => ?_
      have hv : v = .non := hv
      subst hv
      refine k2 ho q G' H' (e1.trans (e2.trans e)) ?_
      have ed : refsD (fun o' => if o' = o then q else c o') (os ++ [o]) = refsD c os ++ [(o, rV (.ref q))] := by
        rw [← map_snoc_if ho]
        refine List.map_congr_left fun z _ => ?_
        by_cases e : z = o
        · subst e; simp
        · simp [e]
      have ec : cellsL (fun o' => if o' = o then q else c o') (fun o' => if o' = o then [m] else l o') (os ++ [o]) = cellsL c l os ++ [(q, .lst [rI m])] := by
        rw [← map_snoc_if ho]
        refine List.map_congr_left fun z _ => ?_
        by_cases e : z = o
        · subst e; simp
        · simp [e]
      rw [ed, ec]
      have pm : (self :: (F, Cell.dct (refsD c os ++ [(o, rV (.ref q))])) :: (cellsL c l os ++ [(q, .lst [rI m])])).Perm ((q, Cell.lst ([] ++ [rI m])) :: self :: (F, Cell.dct (refsD c os ++ [(o, rV (.ref q))])) :: cellsL c l os) := List.perm_append_comm (l₁ := self :: (F, Cell.dct (refsD c os ++ [(o, rV (.ref q))])) :: cellsL c l os) (l₂ := [(q, .lst [rI m])])
      exact S'.cells (fun p hp => pm.subset hp) ((pm.map (·.1)).nodup_iff.mpr S'.mem.nd)
end
end K62
set_option maxHeartbeats 4000000
/-! K62Dt: who holds a mark. -/
namespace K62
open PySem PySem.Spec PyProof.Rows L2
local macro_rules | `(tactic| walk_at "ev") => `(tactic| repeat' (first
  | ((with_reducible apply ev_var); exact rfl)
  | with_reducible exact ev_c
  | with_reducible exact ea_nil
  | with_reducible exact et_yes
  | with_reducible exact rv_I0
  | with_reducible exact eo_none
  | with_reducible apply eo_some
  | with_reducible apply ea_cons
  | with_reducible apply ev_op
  | (with_reducible apply ev_andV <;> try intro _)
  | (with_reducible apply ev_orV <;> try intro _)
  | with_reducible apply ev_notV
  | with_reducible apply ev_tup
  | with_reducible apply ev_lst
  | with_reducible apply ev_neg
  | with_reducible apply ev_cb
  | with_reducible apply et_B
  | with_reducible apply et_val
  | with_reducible apply et_not
  | (with_reducible apply et_and <;> try intro _)
  | (with_reducible apply et_or <;> try intro _)
  | with_reducible apply ev_call
  | with_reducible apply ev_fld
  | with_reducible exact cls_Cutter (by assumption)
  | with_reducible exact cls_Rule (by assumption)
  | with_reducible exact cls_Page (by assumption)
  | with_reducible exact cls_Inbox (by assumption)
  | with_reducible exact na_parts (by assumption)
  | with_reducible exact na_tables (by assumption)
  | with_reducible exact na_whole (by assumption)
  | with_reducible exact na_cutter (by assumption)
  | with_reducible exact na_sees (by assumption)
  | with_reducible exact na_rule (by assumption)
  | with_reducible exact na_pmarks (by assumption)
  | with_reducible exact na_letters (by assumption)
  | with_reducible exact na_bound (by assumption)
  | with_reducible exact na_shown (by assumption)
  | with_reducible exact na_moves (by assumption)
  | with_reducible exact na_near (by assumption)
  | with_reducible exact na_groups (by assumption)
  | with_reducible exact na_pages (by assumption)
  | with_reducible exact na_version (by assumption)
  | with_reducible exact na_marks (by assumption)
  | with_reducible exact isi_str (by assumption)
  | with_reducible exact isi_int (by assumption)
  | with_reducible exact isi_intbool (by assumption)
  | with_reducible exact isi_bool (by assumption)
  | with_reducible exact isi_tup (by assumption)
  | with_reducible exact isi_Cutter (by assumption)
  | with_reducible exact isi_Rule (by assumption)
  | with_reducible exact isi_Inbox (by assumption)
  | with_reducible exact rc_lenT
  | with_reducible exact rc_lenL
  | with_reducible apply rc_lenS
  | with_reducible exact rc_abs
  | with_reducible exact rc_max
  | with_reducible exact rc_min
  | with_reducible exact rc_int
  | with_reducible exact rc_intB
  | with_reducible exact rv_inSign
  | with_reducible exact rv_inT
  | with_reducible exact rv_inL
  | with_reducible exact rv_ninL
  | with_reducible exact rv_ixT0
  | with_reducible exact rv_ixT1
  | with_reducible exact rv_ixT2
  | with_reducible exact rv_ixT3
  | with_reducible exact rv_ixL0
  | with_reducible exact rv_ixL1
  | with_reducible exact rv_ixL2))
structure HoI (D : List (Int × Int)) (os : List Int) (l : Int → List Int) : Prop where
  nd : os.Nodup
  A : ∀ o ∈ os, ∀ x ∈ l o, (x, o) ∈ D
  B : ∀ p ∈ D, p.2 ∈ os ∧ p.1 ∈ l p.2
  n1 : os.length ≤ D.length
  n2 : ∀ o ∈ os, (l o).length ≤ D.length
theorem HoI.old {D : List (Int × Int)} {os : List Int} {l : Int → List Int} (h : HoI D os l) {o m : Int} (ho : o ∈ os) : HoI (D ++ [(m, o)]) os (fun o' => if o' = o then l o ++ [m] else l o') := by
  refine ⟨h.nd, fun o' h1 x hx => ?_, fun p hp => ?_, ?_, fun o' h1 => ?_⟩
  · by_cases e : o' = o
    · subst e
      simp only [if_pos] at hx
      rcases List.mem_append.mp hx with q | q
      · exact List.mem_append_left _ (h.A o' h1 x q)
      · rw [List.mem_singleton.mp q]; simp
    · simp only [if_neg e] at hx
      exact List.mem_append_left _ (h.A o' h1 x hx)
  · rcases List.mem_append.mp hp with q | q
    · obtain ⟨h1, h2⟩ := h.B p q
      refine ⟨h1, ?_⟩
      by_cases e : p.2 = o
      · simp only [if_pos e]; rw [e] at h2; exact List.mem_append_left _ h2
      · simp only [if_neg e]; exact h2
    · rw [List.mem_singleton.mp q]
      exact ⟨ho, by simp⟩
  · rw [List.length_append]; have := h.n1; omega
  · rw [List.length_append]
    by_cases e : o' = o
    · simp only [if_pos e]; have := h.n2 o ho; rw [List.length_append]; simp; omega
    · simp only [if_neg e]; have := h.n2 o' h1; omega
theorem HoI.new {D : List (Int × Int)} {os : List Int} {l : Int → List Int} (h : HoI D os l) {o m : Int} (ho : o ∉ os) : HoI (D ++ [(m, o)]) (os ++ [o]) (fun o' => if o' = o then [m] else l o') := by
  refine ⟨List.nodup_append.mpr ⟨h.nd, by simp, fun x hx y hy e => ho (by have : y = o := by simpa using hy
                                                                          rw [← this, ← e]; exact hx)⟩, fun o' h1 x hx => ?_, fun p hp => ?_, ?_, fun o' h1 => ?_⟩
  · by_cases e : o' = o
    · subst e
      simp only [if_pos] at hx
      rw [List.mem_singleton.mp hx]; simp
    · simp only [if_neg e] at hx
      refine List.mem_append_left _ (h.A o' ?_ x hx)
      rcases List.mem_append.mp h1 with q | q
      · exact q
      · exact absurd (List.mem_singleton.mp q) e
  · rcases List.mem_append.mp hp with q | q
    · obtain ⟨h1, h2⟩ := h.B p q
      refine ⟨List.mem_append_left _ h1, ?_⟩
      have e : ¬ p.2 = o := fun e => ho (by rw [← e]; exact h1)
      simp only [if_neg e]; exact h2
    · rw [List.mem_singleton.mp q]
      exact ⟨by simp, by simp⟩
  · rw [List.length_append, List.length_append]; have := h.n1; simp; omega
  · rw [List.length_append]
    by_cases e : o' = o
    · simp only [if_pos e]; simp
    · simp only [if_neg e]
      have h1 : o' ∈ os := by
        rcases List.mem_append.mp h1 with q | q
        · exact q
        · exact absurd (List.mem_singleton.mp q) e
      have := h.n2 o' h1; omega
section
variable {P : Program} {w : World} {K : PySem.W.Frag} {mg : Str → Option Value} {base : Heap}
structure HoX where
  a : Addr
  dx : Addr
  fs : List (Str × Rp)
  mm : List Int
  b : Int → List Int
structure HoX.ok (x : HoX) : Prop where
  len : x.mm.length ≤ 100
  bl : ∀ m ∈ x.mm, (x.b m).length ≤ 50
  bd : x.fs.lookup ("own_bound" : Str) = some (rBd x.mm x.b)
abbrev HoX.c (K : Fr) (x : HoX) : Ms := [(x.a, .ins (He.ga K "Page") x.dx x.fs)]
structure HoR (mm : List Int) (b : Int → List Int) (os : List Int) (l : Int → List Int) : Prop where
  nd : os.Nodup
  A : ∀ o ∈ os, ∀ x ∈ l o, x ∈ mm ∧ o ∈ b x ++ [x]
  B : ∀ x ∈ mm, ∀ o ∈ b x ++ [x], o ∈ os ∧ x ∈ l o
  n1 : os.length ≤ 10000
  n2 : ∀ o ∈ os, (l o).length ≤ 10000
abbrev spHolders (K : Fr) : Sp := spF (fun (x : HoX) L => x.ok ∧ L = []) (fun x => [rV (.ref x.a)]) (fun x => x.c K) (fun x => x.c K)
  (fun x => rEx (fun z : List Int × (Int → List Int) => HoR x.mm x.b z.1 z.2) fun z => rDct (z.1.map fun o => (o, rLst ((z.2 o).map rI))))
structure HoS where
  D : List (Int × Int)
  os : List Int
  c : Int → Addr
  l : Int → List Int
theorem sc_Page_holders : FnScope ["self", "found", "mark", "bound", "one"] ["self"] (defScope s_Page_holders) := ⟨rfl, rfl, rfl, by decide +kernel, rfl, by decide +kernel, by decide +kernel⟩
theorem mt_Page_holders (T : Tx P w K mg base) : Mt P w K mg base 1 (He.ga K "Page") "holders" (spHolders K) := by
  obtain ⟨fd, F⟩ := T.def_ di_Page_holders
  refine ⟨_, T.meth fi_meth_Page_holders, fnR_of F sc_Page_holders (fun _ => rfl) (fun _ _ _ _ _ _ us hl => match us, hl with | [_], _ => rfl) fun cdv A outer s H0 vs Q E hr z L G hp k S => ?_⟩
  obtain ⟨a, dx, fs, mm, b⟩ := z
  obtain ⟨⟨hlen, hbl, hbd⟩, rfl⟩ := hp
  dsimp only at hlen hbl hbd k
  refine ⟨_, (pss_cons (ps_set (i := 1) sc_Page_holders.nd rfl (Or.inl rfl) pe_dnewK)
    (pss_cons (ps_lock (ps_for PassesOwn.never rfl (pi_items (pe_fldK (K := K) (pv 0) rfl)) (pg_tupK (K := K) (n := 2) rfl (pgs_cons (pg_name (i := 2) sc_Page_holders.nd rfl (Or.inl rfl)) (pgs_cons (pg_name (i := 3) sc_Page_holders.nd rfl (Or.inl rfl)) pgs_nil)))
      (pss_one (ps_for PassesOwn.never rfl (pi_tupK (K := K) (pe_tup (pa_starK (K := K) (pv 3) (pa_cons (pv 2) pa_nil)))) (pg_name (i := 4) sc_Page_holders.nd rfl (Or.inl rfl))
      (pss_one (ps_expr (pe_bmK (K := K) PySem.F.plainAttrs_list PySem.F.slot_list_append PySem.F.type_list_append mt_append (pe_dsetd (pv 1) (pv 4) (pe_lst pa_nil) ⟨by rfl, by rfl, by rfl, by rfl⟩) (pa_cons (pv 2) pa_nil))))))))
    (pss_one (ps_ret (pv 1))))), ?_⟩
  try dsimp only [L2.cxOf]
  refine st_dnew S fun F σ1 G1 H1 e1 S1 => ?_
  have S1 := S1.cells (ms' := [(a, .ins (He.ga K "Page") dx fs), (F, .dct [])]) (fun p hp => by simpa [or_comm] using hp) (by
    have nd := S1.mem.nd
    have pm : [(a, Cell.ins (He.ga K "Page") dx fs), (F, Cell.dct [])].Perm [(F, .dct []), (a, .ins (He.ga K "Page") dx fs)] := List.Perm.swap _ _ _
    exact (pm.map (·.1)).nodup_iff.mpr nd)
  dsimp only
  refine st_lock (turns_fld (j := 0) (a := a) (f := "own_bound") rfl hbd) S1 fun d' kvs o hd' S2 S2' => ?_
  refine st_for (ι := HoS) (ei_items (ev_fldM (j := 0) (ev_var rfl) rfl (cls_Page T) (na_bound T) (lookR_same hbd))) S2' (fun i x => HoI x.D x.os x.l ∧ (∀ p, p ∈ x.D ↔ p.1 ∈ mm.take i ∧ p.2 ∈ b p.1 ++ [p.1]) ∧ x.D.length ≤ 60 * i)
    (fun _ => [some (rV (.ref a)), some (rV (.ref F)), none, none, none]) (fun x => (a, .ins (He.ga K "Page") dx (putR "own_bound" (rDctAt d' (mm.map fun m => (m, rInts (b m)))) fs)) :: (F, .dct (refsD x.c x.os)) :: cellsL x.c x.l x.os) ⟨[], [], fun _ => a, fun _ => []⟩
    ⟨⟨by simp, by simp, by simp, by simp, by simp⟩, by simp, by simp⟩ (fun B σ G H S => S) (fun B1 G4 H4 i r x σ5 G5 H5 e4 hr hx e5 hl un sm S5 => ?_) (fun x σ5 G5 H5 hx e4 S5 => ?_)
  · obtain ⟨D, os, c, l⟩ := x
    obtain ⟨hI, hD, hN⟩ := hx
    dsimp only at hI hD hN S5
    rw [List.map_map, List.getElem?_map] at hr
    cases hq : mm[i]? with
    | none => rw [hq] at hr; cases hr
    | some m =>
      rw [hq] at hr
      cases hr
      have hm : m ∈ mm := List.mem_of_getElem? hq
      have hi : i < mm.length := (List.getElem?_eq_some_iff.mp hq).1
      have bm := hbl m hm
      refine ⟨_, [2, 3], gm_tup2 (r1 := rI m) (r2 := rInts (b m)) (by simp) (by simp), fun σ6 G6 H6 e6 S6 => ?_⟩
      refine st_for (ι := HoS) (ei_is (ss := (b m ++ [m]).map rI) (ei_tup (ev_tup (ea_starT (ev_var rfl) (ea_cons (ev_var rfl) ea_nil)) (by simp; omega))) (by rw [List.map_append]; rfl)) S6 (fun j x => HoI x.D x.os x.l ∧ (∀ p, p ∈ x.D ↔ p ∈ D ∨ (p.1 = m ∧ p.2 ∈ (b m ++ [m]).take j)) ∧ x.D.length ≤ D.length + j)
        (fun _ => [some (rV (.ref a)), some (rV (.ref F)), some (rI m), some (rInts (b m)), none]) (fun x => (a, .ins (He.ga K "Page") dx (putR "own_bound" (rDctAt d' (mm.map fun m => (m, rInts (b m)))) fs)) :: (F, .dct (refsD x.c x.os)) :: cellsL x.c x.l x.os) ⟨D, os, c, l⟩
        ⟨hI, by simp, by simp⟩ (fun B σ G H S => S) (fun B2 G7 H7 j r x σ8 G8 H8 e7 hr hx e8 hl2 un2 sm2 S8 => ?_) (fun x σ8 G8 H8 hx e7 S8 => ?_)
      · obtain ⟨D2, os2, c2, l2⟩ := x
        obtain ⟨hI2, hD2, hN2⟩ := hx
        dsimp only at hI2 hD2 hN2 S8
        rw [List.getElem?_map] at hr
        cases hq2 : (b m ++ [m])[j]? with
        | none => rw [hq2] at hr; cases hr
        | some o =>
          rw [hq2] at hr
          cases hr
          have hj : j < (b m ++ [m]).length := (List.getElem?_eq_some_iff.mp hq2).1
          rw [List.length_append, List.length_singleton] at hj
          have n1 := hI2.n1
          have nD : ∀ p, p ∈ D2 ++ [(m, o)] ↔ p ∈ D ∨ (p.1 = m ∧ p.2 ∈ (b m ++ [m]).take (j + 1)) := fun p => by
            rw [List.mem_append, hD2, take_at hq2, List.mem_append, List.mem_singleton, List.mem_singleton]
            constructor
            · rintro ((q | q) | q)
              · exact .inl q
              · exact .inr ⟨q.1, .inl q.2⟩
              · subst q; exact .inr ⟨rfl, .inr rfl⟩
            · rintro (q | ⟨q1, q2 | q2⟩)
              · exact .inl (.inl q)
              · exact .inl (.inr ⟨q1, q2⟩)
              · exact .inr (Prod.ext q1 q2)
          refine ⟨_, [4], gm_name (by simp), fun σ9 G9 H9 e9 S9 => ?_⟩
          refine ev_setdApp (F := F) (os := os2) (c := c2) (l := l2) (o := o) (m := m) rfl rfl rfl S9 hI2.nd (by omega) (fun o' ho' => by have := hI2.n2 o' ho'; omega) (fun ho G10 H10 e10 S10 => ?_) (fun ho q G10 H10 e10 S10 => ?_)
          · exact ⟨⟨D2 ++ [(m, o)], os2, c2, _⟩, G10, ⟨hI2.old ho, nD, by rw [List.length_append]; simp; omega⟩, S10.weak (by repeat' constructor)⟩
          · exact ⟨⟨D2 ++ [(m, o)], os2 ++ [o], _, _⟩, G10, ⟨hI2.new ho, nD, by rw [List.length_append]; simp; omega⟩, S10.weak (by repeat' constructor)⟩
      · obtain ⟨D2, os2, c2, l2⟩ := x
        obtain ⟨hI2, hD2, hN2⟩ := hx
        dsimp only at hI2 hD2 hN2 S8
        rw [List.length_map] at hD2 hN2
        rw [List.take_length] at hD2
        refine ⟨⟨D2, os2, c2, l2⟩, G8, ⟨hI2, fun p => ?_, ?_⟩, S8.weak (by repeat' constructor)⟩
        · show p ∈ D2 ↔ _
          have em : p.1 ∈ List.take i mm ++ [m] ↔ p.1 ∈ List.take i mm ∨ p.1 = m := by rw [List.mem_append, List.mem_singleton]
          rw [hD2, hD, take_at hq, em]
          constructor
          · rintro (⟨q1, q2⟩ | ⟨q1, q2⟩)
            · exact ⟨.inl q1, q2⟩
            · exact ⟨.inr q1, by rw [q1]; exact q2⟩
          · rintro ⟨q1 | q1, q2⟩
            · exact .inl ⟨q1, q2⟩
            · exact .inr ⟨q1, by rw [q1] at q2; exact q2⟩
        · show D2.length ≤ _
          rw [List.length_append, List.length_singleton] at hN2
          omega
  · obtain ⟨D, os, c, l⟩ := x
    obtain ⟨hI, hD, hN⟩ := hx
    dsimp only at hI hD hN S5
    rw [List.map_map, List.length_map] at hD hN
    rw [List.take_length] at hD
    obtain ⟨z1, z2⟩ := S2.unlock hd' S5
    refine ⟨z1, ?_⟩
    have S6 := z2.tell (j := 0) rfl (fun gs q => AlF.un hbd q)
    have nd := S6.mem.nd
    have S7 := S6.cells (ms' := cellsL c l os ++ [(F, .dct (refsD c os)), (a, .ins (He.ga K "Page") dx fs)]) (fun p hp => ?_) ?_
    · have fr : ∀ p ∈ cellsL c l os ++ [(F, Cell.dct (refsD c os))], p.1 ≠ a := fun p hp e => by
        have nd : ((a, Cell.ins (He.ga K "Page") dx fs) :: (F, Cell.dct (refsD c os)) :: cellsL c l os).map (·.1) |>.Nodup := nd
        rw [List.map_cons] at nd
        refine (List.nodup_cons.mp nd).1 (List.mem_map.mpr ⟨p, ?_, e⟩)
        rcases List.mem_append.mp hp with q | q
        · exact List.mem_cons_of_mem _ q
        · rw [List.mem_singleton.mp q]; exact List.mem_cons_self
      obtain ⟨G7, e7, S8, h8⟩ := S7.freezeAll fun p hp => (S7.own p (List.mem_append_left _ hp)).resolve_left fun q => fr p (List.mem_append_left _ hp) (by simpa using q)
      have S9 := S8.tellD (j := 0) (ks' := os.map fun o => (o, rLst ((l o).map rI))) rfl fun xs q => by
        have key : ∀ {t : List Int} {xs : List (Key × V)}, (∀ o ∈ t, o ∈ os) → AlK (refsD c t) xs G7 → AlK (t.map fun o => (o, rLst ((l o).map rI))) xs G7 := fun {t} => by
          induction t with
          | nil => intro xs _ h; cases h; exact .nil
          | cons o t ih =>
            intro xs hs h
            have h : AlK ((o, rV (.ref (c o))) :: refsD c t) xs G7 := h
            cases h with
            | cons p q =>
              refine .cons ⟨p.1, ?_⟩ (ih (fun o ho => hs o (List.mem_cons_of_mem _ ho)) q)
              have p2 := p.2
              rename_i y ys
              have p2 : y.2 = .ref (c o) := p2
              have := h8 (c o, .lst ((l o).map rI)) (List.mem_map.mpr ⟨o, hs o List.mem_cons_self, rfl⟩)
              rw [p2]
              exact this
        exact key (fun o h => h) q
      obtain ⟨G9, e9, S10⟩ := S9.freezeS (i := 1) ((S9.own _ List.mem_cons_self).resolve_left fun q => fr (F, .dct (refsD c os)) (by simp) (by simpa using q)) rfl
      dsimp only
      refine st_retP _ (ev_var rfl) S10 fun v G' H' e S' hv => k _ _ G' H' S' v ⟨(os, l), ⟨hI.nd, fun o ho x hx => ?_, fun x hx o ho => ?_, ?_, fun o ho => ?_⟩, hv⟩
      · exact (hD (x, o)).mp (hI.A o ho x hx)
      · exact hI.B (x, o) ((hD (x, o)).mpr ⟨hx, ho⟩)
      · have := hI.n1; show os.length ≤ _; omega
      · have := hI.n2 o ho; show (l o).length ≤ _; omega
    · have pm : ((a, Cell.ins (He.ga K "Page") dx fs) :: (F, Cell.dct (refsD c os)) :: cellsL c l os).Perm (cellsL c l os ++ [(F, .dct (refsD c os)), (a, .ins (He.ga K "Page") dx fs)]) := ((List.Perm.swap _ _ _).trans (List.perm_append_comm (l₁ := [(F, Cell.dct (refsD c os)), (a, Cell.ins (He.ga K "Page") dx fs)]) (l₂ := cellsL c l os)))
      exact pm.symm.subset hp
    · have pm : ((a, Cell.ins (He.ga K "Page") dx fs) :: (F, Cell.dct (refsD c os)) :: cellsL c l os).Perm (cellsL c l os ++ [(F, .dct (refsD c os)), (a, .ins (He.ga K "Page") dx fs)]) := ((List.Perm.swap _ _ _).trans (List.perm_append_comm (l₁ := [(F, Cell.dct (refsD c os)), (a, Cell.ins (He.ga K "Page") dx fs)]) (l₂ := cellsL c l os)))
      exact (pm.map (·.1)).nodup_iff.mp nd
end
end K62
set_option maxHeartbeats 4000000
/-! K62Fa: families of sets. -/
namespace K62
open PySem PySem.Spec PyProof.Rows L2
def insL (y : Int) (l : List Int) : List Int := if y ∈ l then l else l ++ [y]
theorem mem_insL {y z : Int} {l : List Int} : z ∈ insL y l ↔ z ∈ l ∨ z = y := by
  unfold insL
  split
  · rename_i h
    exact ⟨.inl, fun q => q.elim id fun e => e ▸ h⟩
  · rw [List.mem_append, List.mem_singleton]
theorem nd_insL {y : Int} {l : List Int} (h : l.Nodup) : (insL y l).Nodup := by
  unfold insL
  split
  · exact h
  · rename_i n
    exact List.nodup_append.mpr ⟨h, by simp, fun x hx w hw e => n (by have : w = y := by simpa using hw
                                                                      rw [← this, ← e]; exact hx)⟩
abbrev trues (l : List Int) : List (Int × Rp) := l.map fun y => (y, rB true)
theorem putI_ins {y : Int} {l : List Int} : putI y (rB true) (trues l) = trues (insL y l) := by
  unfold insL
  split
  · rename_i h
    rw [put_fn (f := fun _ => rB true) h]
    exact List.map_congr_left fun m _ => by simp
  · rename_i h
    rw [putI_new fun p hp z => ?_]
    · show _ = List.map _ (l ++ [y])
      rw [List.map_append]; rfl
    · obtain ⟨m', h1, h2⟩ := List.mem_map.mp hp
      subst h2
      exact h (by rw [← z]; exact h1)
def mrg (l Z : List Int) : List Int := Z.foldl (fun acc y => insL y acc) l
theorem mem_mrg {z : Int} : ∀ {Z l : List Int}, z ∈ mrg l Z ↔ z ∈ l ∨ z ∈ Z
  | [], l => by simp [mrg]
  | y :: Z, l => by
    show z ∈ mrg (insL y l) Z ↔ _
    rw [mem_mrg, mem_insL, List.mem_cons, or_assoc]
theorem nd_mrg : ∀ {Z l : List Int}, l.Nodup → (mrg l Z).Nodup
  | [], _, h => h
  | y :: Z, l, h => nd_mrg (Z := Z) (nd_insL h)
theorem merge_trues : ∀ {Z l : List Int}, mergeI (trues l) (trues Z) = trues (mrg l Z)
  | [], _ => rfl
  | y :: Z, l => by
    show mergeI (putI y (rB true) (trues l)) (trues Z) = trues (mrg (insL y l) Z)
    rw [putI_ins, merge_trues]
abbrev cellsD (c : Int → Addr) (S : Int → List Int) (os : List Int) : Ms := os.map fun o => (c o, Cell.dct (trues (S o)))
section
variable {B : Bs} {L : List Addr} {ctx : Ct} {ms ms1 ms2 : Ms} {te : TE} {tl : TA} {r : Rp} {rs : List Rp} {K : PySem.W.Frag} {D : Ends} {σ : L2.St} {G H : Hp} {Q : VK}
theorem cell_at {c : Int → Addr} {S : Int → List Int} {os : List Int} {o : Int} {self : Addr × Cell} {j : Nat} (h : os[j]? = some o) : (self :: cellsD c S os)[j + 1]? = some (c o, .dct (trues (S o))) := by
  show (cellsD c S os)[j]? = _
  rw [List.getElem?_map, h]; rfl
theorem cell_set {c : Int → Addr} {S : Int → List Int} {os : List Int} {o : Int} {self : Addr × Cell} {j : Nat} {l : List Int} (nd : os.Nodup) (h : os[j]? = some o) : (self :: cellsD c S os).set (j + 1) (c o, .dct (trues l)) = self :: cellsD c (fun o' => if o' = o then l else S o') os := by
  show self :: (cellsD c S os).set j _ = _
  rw [set_map nd h]
  congr 1
  refine List.map_congr_left fun z _ => ?_
  by_cases e : z = o
  · subst e; simp
  · simp [e]
/-- f[o][y] = True -/
theorem st_putC {c : Int → Addr} {S0 : Int → List Int} {os : List Int} {o y : Int} {self : Addr × Cell} {vf vo vy : Nat} (hf : ctx[vf]? = some (some (rDct (refsD c os)))) (ho : ctx[vo]? = some (some (rI o))) (hy : ctx[vy]? = some (some (rI y))) (S : Sx B L ctx (self :: cellsD c S0 os) σ G H)
    (nd : os.Nodup) (hm : o ∈ os) (hl : (S0 o).length < 100000) (k : ∀ G' H', Same G G' → Sx B L ctx (self :: cellsD c (fun o' => if o' = o then insL y (S0 o) else S0 o') os) σ G' H' → D.nx σ H') : sDPut (tDGet (tVar vf) (tVar vo)) (tVar vy) (tC (.bl true)) D σ H := by
  obtain ⟨j, hj0, hj1⟩ := List.mem_iff_getElem.mp hm
  have hj : os[j]? = some o := by rw [List.getElem?_eq_getElem hj0, hj1]
  refine st_dput (r := rB true) (k := y) (j := j + 1) (ks := trues (S0 o)) (ms3 := self :: cellsD c S0 os) ev_c (ev_dget (ev_var hf) (ev_var ho) (look_fn (f := fun o => rV (.ref (c o))) hm)) (ev_var hy) (cell_at hj) (by rw [List.length_map]; exact hl) S fun G' H' e S' => k G' H' e ?_
  rw [putI_ins, cell_set nd hj] at S'
  exact S'
/-- d.update(e), e drawn -/
theorem ev_dupdX {α : Type} {P : α → Prop} {f : α → List (Int × Rp)} {d : Addr} {ks : List (Int × Rp)} {j : Nat} (h : EvM B L te ctx ms (rV (.ref d)) ms1) (ha : EvA B L tl ctx ms1 [rEx P fun z => rDct (f z)] ms2) (hj1 : ∃ (j0 : Nat) (c : List (Int × Rp)), ms1[j0]? = some (d, .dct c)) (hj : ms2[j]? = some (d, .dct ks)) (hl : ∀ z, P z → ks.length + (f z).length ≤ 100000)
    (S : Sx B L ctx ms σ G H) (k : ∀ z G' H', P z → Same G G' → Sx B L ctx (ms2.set j (d, .dct (mergeI ks (f z)))) σ G' H' → Q .non H') :
    tBM K "dict" rDUpd te tl σ H Q :=
  h σ G H S _ fun v G1 H1 e1 S1 ev => by
    have ev : v = .ref d := ev
    subst ev
    obtain ⟨j0, c0, h0⟩ := hj1
    have c1 : CAt d G1 H1 (.dct c0) := S1.mem.at_ _ (List.mem_of_getElem? h0)
    cases c1 with
    | @dct _ kvs0 hd0 hk0 =>
      refine ⟨.inr (.inr (.inl ⟨rfl, .inl ⟨kvs0, hd0⟩⟩)), ha σ G1 H1 S1 _ fun vs G2 H2 e2 S2 hal => ?_⟩
      obtain ⟨w, rfl, z, pz, b, mor, e, hb, hm⟩ := al1 hal
      subst e
      have c2 : CAt d G2 H2 (.dct ks) := S2.mem.at_ _ (List.mem_of_getElem? hj)
      have out : G2 d = none := S2.mem.out _ (List.mem_of_getElem? hj)
      cases c2 with
      | @dct _ kvs hd hk =>
        have ne : d ≠ b := fun z => by subst z; rw [out] at hb; cases hb
        exact ⟨d, b, kvs, mor, rfl, rfl, hd, S2.ex.dct hb, ne, Nat.le_trans (by rw [← Paired.length hk, ← Paired.length hm]; exact hl z pz) (by decide), k z G2 _ pz (e1.trans e2) (S2.put hj (.dct upd_same (AlK.merge hm hk)))⟩
/-- {y: True for y in l if y != m} -/
theorem ev_dcT {wi : TI} {l : List Int} {m : Int} {i v : Nat} (hi : EvI B L wi ctx ms (l.map rI) ms1) (hl : l.length ≤ 100000) (hm : (wipeC ctx [i])[v]? = some (some (rI m))) (hiv : i ≠ v) (hic : i < ctx.length) :
    EvM B L (tDc wi (gName i) (tTest (tOp rNe (tVar i) (tVar v))) (tVar i) (tC (.bl true)) [i]) ctx ms (rEx (fun Z : List Int => Z.Nodup ∧ ∀ y, y ∈ Z ↔ y ∈ l ∧ y ≠ m) fun Z => rDct (trues Z)) ms1 := fun σ G H S Q k => by
  refine ev_dcN (γ := Unit) (ι := Unit) (P := fun _ => True) (mf := fun _ => ms1) (fun _ i _ ys => ∃ Z : List Int, ys = trues Z ∧ Z.Nodup ∧ ∀ y, y ∈ Z ↔ y ∈ l.take i ∧ y ≠ m) () (ei_ix hi) (fun _ _ => by rw [List.length_map]; exact hl) (fun _ _ => ⟨[], rfl, by simp, by simp⟩) (fun _ j r _ ys _ hr ⟨Z, hy, nd, hz⟩ => ?_) S fun _ _ ys v G' H' _ ⟨Z, hy, nd, hz⟩ e' S' hv => ?_
  · rw [List.getElem?_map] at hr
    cases hq : l[j]? with
    | none => rw [hq] at hr; cases hr
    | some y =>
      rw [hq] at hr
      cases hr
      refine ⟨_, gm_name (by simp), fun B σ G H S Qy Qn ky kn => ?_⟩
      have wl : (wipeC ctx [i]).length = ctx.length := by simp [wipeC]
      have c1 : ((wipeC ctx [i]).set i (some (rI y)))[i]? = some (some (rI y)) := List.getElem?_set_self (by rw [wl]; exact hic)
      have c2 : ((wipeC ctx [i]).set i (some (rI y)))[v]? = some (some (rI m)) := by rw [List.getElem?_set_ne hiv]; exact hm
      refine (et_val (ev_op (ev_var c1) (ev_var c2) (rv_ne rfl))) σ G H S _ fun G1 H1 e1 S1 => ?_
      by_cases q : y = m
      · have : (!decide (V.int y = V.int m)) = false := by subst q; simp
        rw [this, if_neg (by simp)]
        refine kn () G1 H1 ⟨Z, hy, nd, fun x => ?_⟩ e1 S1
        rw [hz, take_at hq, List.mem_append, List.mem_singleton]
        constructor
        · rintro ⟨a, b⟩; exact ⟨.inl a, b⟩
        · rintro ⟨a | a, b⟩
          · exact ⟨a, b⟩
          · exact absurd (a.trans q) b
      · have : (!decide (V.int y = V.int m)) = true := by simp [q]
        rw [this, if_pos rfl]
        refine ev_var c1 σ G1 H1 S1 _ fun v1 G2 H2 e2 S2 h1 => ?_
        have h1 : v1 = .int y := h1
        subst h1
        refine ky y (.bl true) (rB true) () G2 H2 ⟨insL y Z, by rw [hy, putI_ins], nd_insL nd, fun x => ?_⟩ (e1.trans e2) S2 rfl
        rw [mem_insL, hz, take_at hq, List.mem_append, List.mem_singleton]
        constructor
        · rintro (⟨a, b⟩ | a)
          · exact ⟨.inl a, b⟩
          · subst a; exact ⟨.inr rfl, q⟩
        · rintro ⟨a | a, b⟩
          · exact .inl ⟨a, b⟩
          · exact .inr a
  · rw [List.length_map, List.take_length] at hz
    subst hy
    exact k v G' H' e' S' ⟨Z, ⟨nd, hz⟩, hv⟩
/-- {m: {} for m in mm}: a cell for each -/
theorem ev_dcC {wi : TI} {mm : List Int} {i : Nat} {self : Addr × Cell} (hi : EvI B L wi ctx [self] (mm.map rI) [self]) (nd : mm.Nodup) (hl : mm.length ≤ 1000) (hic : i < ctx.length) (S : Sx B L ctx [self] σ G H)
    (k : ∀ c v G' H', Same G G' → Sx B L ctx (self :: cellsD c (fun _ => []) mm) σ G' H' → (rDct (refsD c mm)).ok v G' → Q v H') : tDc wi (gName i) tYes (tVar i) tDNewK [i] σ H Q := by
  refine ev_dcN (γ := Unit) (ι := Nat × (Int → Addr)) (P := fun _ => True) (mf := fun x => self :: cellsD x.2 (fun _ => []) (mm.take x.1)) (fun _ i x ys => x.1 = i ∧ ys = refsD x.2 (mm.take i)) (0, fun _ => self.1) (ei_ix hi) (fun _ _ => by rw [List.length_map]; omega) (fun _ _ => ⟨rfl, rfl⟩) (fun _ j r x ys _ hr hx => ?_) S fun _ x ys v G' H' _ hx e' S' hv => ?_
  · obtain ⟨j', c⟩ := x
    obtain ⟨rfl, hy⟩ := hx
    dsimp only at hy
    rw [List.getElem?_map] at hr
    cases hq : mm[j']? with
    | none => rw [hq] at hr; cases hr
    | some m =>
      rw [hq] at hr
      cases hr
      have nin : m ∉ mm.take j' := not_in_take nd hq
      refine ⟨_, gm_name (by simp), fun B σ G H S Qy Qn ky kn => ?_⟩
      unfold tYes
      dsimp only
      rw [if_pos rfl]
      have wl : (wipeC ctx [i]).length = ctx.length := by simp [wipeC]
      have c1 : ((wipeC ctx [i]).set i (some (rI m)))[i]? = some (some (rI m)) := List.getElem?_set_self (by rw [wl]; exact hic)
      refine ev_var c1 σ G H S _ fun v1 G2 H2 e2 S2 h1 => ?_
      have h1 : v1 = .int m := h1
      subst h1
      intro q hq2
      have S3 := S2.newM (c := .dct []) hq2 (.dct upd_same .nil)
      refine ky m (.ref q) (rV (.ref q)) (j' + 1, fun o => if o = m then q else c o) G2 _ ⟨rfl, ?_⟩ e2 ?_ rfl
      · rw [hy, putI_new fun p hp z => ?_]
        · show _ = refsD _ (mm.take (j' + 1))
          rw [take_at hq, ← map_snoc_if nin]
          refine List.map_congr_left fun z _ => ?_
          by_cases e : z = m
          · subst e; simp
          · simp [e]
        · obtain ⟨m', h1, h2⟩ := List.mem_map.mp hp
          subst h2
          exact nin (by rw [← z]; exact h1)
      · have ec : cellsD (fun o => if o = m then q else c o) (fun _ => []) (mm.take (j' + 1)) = cellsD c (fun _ => []) (mm.take j') ++ [(q, .dct [])] := by
          rw [take_at hq, ← map_snoc_if nin]
          refine List.map_congr_left fun z _ => ?_
          by_cases e : z = m
          · subst e; simp
          · simp [e]
        show Sx B L _ (self :: cellsD _ _ (mm.take (j' + 1))) _ _ _
        rw [ec]
        have pm : (self :: (cellsD c (fun _ => []) (mm.take j') ++ [(q, Cell.dct [])])).Perm ((q, Cell.dct []) :: self :: cellsD c (fun _ => []) (mm.take j')) := List.perm_append_comm (l₁ := self :: cellsD c (fun _ => []) (mm.take j')) (l₂ := [(q, Cell.dct [])])
        exact S3.cells (fun p hp => pm.subset hp) ((pm.map (·.1)).nodup_iff.mpr S3.mem.nd)
  · obtain ⟨j', c⟩ := x
    obtain ⟨rfl, hy⟩ := hx
    dsimp only at hy S'
    rw [List.length_map, List.take_length] at S'
    rw [List.length_map, List.take_length] at hy
    subst hy
    exact k c v G' H' e' S' hv
/-- list(d.values()), d drawn -/
theorem ev_listVals {α : Type} {P : α → Prop} {f : α → List (Int × Rp)} (h : EvM B [] te ctx ms (rEx P fun z => rDct (f z)) ms1) : EvM B [] (tListVals te) ctx ms (rEx P fun z => rLst ((f z).map (·.2))) ms1 := fun σ G H S Q k => h σ G H S _ fun v G1 H1 e1 S1 ⟨z, pz, a, kvs, e, ha, hk⟩ => by
  refine ⟨a, kvs, e, S1.ex.dct0 ha, fun q hq => ?_⟩
  obtain ⟨e3, S3⟩ := S1.new (o := .lst (kvs.map (·.2))) hq
  have key : ∀ {ks : List (Int × Rp)} {kvs : List (Key × V)}, AlK ks kvs G1 → Al (ks.map (·.2)) (kvs.map (·.2)) G1 := fun {ks kvs} h => by
    induction h with
    | nil => exact .nil
    | cons h t ih => exact .cons h.2 ih
  exact k _ _ _ (e1.trans e3) S3 ⟨z, pz, q, _, rfl, upd_same, (key hk).mono e3⟩
end
end K62
set_option maxHeartbeats 4000000
/-! K62Fb: x = {k: v for ..}. -/
namespace K62
open PySem PySem.Spec PyProof.Rows L2
variable {X : Cx}
theorem sw_trueD {kx vx : Expr} {gs : List Comprehension} {scope : Scope} {pos py : Pos} {y : Str} {l : Nat} {env : Env} (hk : env.scope.kind = .function) (hy : env.scope.names.lookup y = some .local) (hl : (py.line == pos.line) = true)
    (ha : (scope.names.any fun (n, k) => n == y && (k == .local || k == .cell)) = false) : swapsWith (.DictComp kx vx gs scope pos) (some (.Name y py)) l env = pure true := by
  have ky : env.kindOf y = some .local := hy
  have hb : env.blockKind = .function := by unfold Env.blockKind; rw [hk]; rfl
  unfold swapsWith
  simp only [hb, ky, ha, Expr.pos, hl]
  rfl
theorem ps_setDc {i : Nat} {y : Str} {py : Pos} {kx vx tg iter : Expr} {ifs : List Expr} {scope : Scope} {own : List (Str × Nat)} {pos spos : Pos} {wi : TI} {g : TG} {tt : TT} {tk tv : TE} (hc : X.calm = true) (hN : X.N.Nodup) (hy : X.N[i]? = some y) (hyl : X.env.scope.names.lookup y = some .local)
    (hsw : swapsWith (.DictComp kx vx [⟨tg, iter, ifs, 0⟩] scope pos) (some (.Name y py)) spos.line X.env = pure true) (hi : PI X tg iter wi) (ok : BlkOk X.N X.env.scope scope own)
    (hg : ∀ (s : Shared) (H : Hp) (C : Addr) (cl : List (Str × Addr)) (fp : List Addr), PG (X.blk s H scope (compEnvC scope cl C X.env) fp) tg g) (ht : ∀ (s : Shared) (H : Hp) (C : Addr) (cl : List (Str × Addr)) (fp : List Addr), PTs (X.blk s H scope (compEnvC scope cl C X.env) fp) ifs tt)
    (hk : ∀ (s : Shared) (H : Hp) (C : Addr) (cl : List (Str × Addr)) (fp : List Addr), PE (X.blk s H scope (compEnvC scope cl C X.env) fp) kx tk)
    (he : ∀ (s : Shared) (H : Hp) (C : Addr) (cl : List (Str × Addr)) (fp : List Addr), PE (X.blk s H scope (compEnvC scope cl C X.env) fp) vx tv) (hs : ∀ x, foldedSetIterable iter X.env x = pure x := by intro _; rfl) :
    PS X (.Assign [.Name y py] (.DictComp kx vx [⟨tg, iter, ifs, 0⟩] scope pos) spos) (tAsg (tDc wi g tt tk tv (own.map (·.2))) (gName i)) := by
  refine ⟨fun pins s σ H D I h => ?_⟩
  rw [exec_Assign_Name_used _ _ _ _ hsw]
  refine wpAny_bind (wpAny_standAt (wpAny_bind ?_))
  show wpAny _ X.A (do let _ ← comprehension (.DictComp kx vx [⟨tg, iter, ifs, 0⟩] scope pos) scope X.env (firstIterPos [⟨tg, iter, ifs, 0⟩] pos) newDict false (eval iter X.env) (some (assign (.Name y py) X.env))) _ _ s
  have h : tDc wi g tt tk tv (own.map (·.2)) σ H (fun x H1 => gName i x σ H1 D.nx) := h
  refine wpAny_bind (thn (dc_core (Qf := fun _ s' => SP X pins D .next s') hc hN I hi ok hg ht hk he hs h fun L C s' m H' I' q hn f => ?_) fun _ s' hq => wpAny_pure (wpAny_pure hq))
  show wpAny _ _ (assign (.Name y py) X.env (.ref L)) _ _ _
  refine wpAny_assign_Name (store_ok2 (v := V.ref L) I' hN hy (.inl hyl) rfl (fun s2 I2 ⟨a, sb, ha⟩ => ?_) (.inr hyl))
  obtain ⟨f0, f1, f2, f3, f4, f5⟩ := f
  have haC : C ≠ a := by
    rcases ha with z | z
    · rw [z]; exact f1
    · exact fun e => f4 y a z e.symm
  refine ⟨m, hn.sameBut sb haC, fun h3 sb3 => ?_⟩
  exact ⟨_, H', I2.turned (t' := s2.toks) (fun b o hb e => (sb3.2 b hb).trans e) f0 f1 f3 f4 f5, q⟩
end K62
set_option maxHeartbeats 4000000
/-! K62Du: neighbours. -/
namespace K62
open PySem PySem.Spec PyProof.Rows L2
local macro_rules | `(tactic| walk_at "ev") => `(tactic| repeat' (first
  | ((with_reducible apply ev_var); exact rfl)
  | with_reducible exact ev_c
  | with_reducible exact ea_nil
  | with_reducible exact et_yes
  | with_reducible exact rv_I0
  | with_reducible exact eo_none
  | with_reducible apply eo_some
  | with_reducible apply ea_cons
  | with_reducible apply ev_op
  | (with_reducible apply ev_andV <;> try intro _)
  | (with_reducible apply ev_orV <;> try intro _)
  | with_reducible apply ev_notV
  | with_reducible apply ev_tup
  | with_reducible apply ev_lst
  | with_reducible apply ev_neg
  | with_reducible apply ev_cb
  | with_reducible apply et_B
  | with_reducible apply et_val
  | with_reducible apply et_not
  | (with_reducible apply et_and <;> try intro _)
  | (with_reducible apply et_or <;> try intro _)
  | with_reducible apply ev_call
  | with_reducible apply ev_fld
  | with_reducible exact cls_Cutter (by assumption)
  | with_reducible exact cls_Rule (by assumption)
  | with_reducible exact cls_Page (by assumption)
  | with_reducible exact cls_Inbox (by assumption)
  | with_reducible exact na_parts (by assumption)
  | with_reducible exact na_tables (by assumption)
  | with_reducible exact na_whole (by assumption)
  | with_reducible exact na_cutter (by assumption)
  | with_reducible exact na_sees (by assumption)
  | with_reducible exact na_rule (by assumption)
  | with_reducible exact na_pmarks (by assumption)
  | with_reducible exact na_letters (by assumption)
  | with_reducible exact na_bound (by assumption)
  | with_reducible exact na_shown (by assumption)
  | with_reducible exact na_moves (by assumption)
  | with_reducible exact na_near (by assumption)
  | with_reducible exact na_groups (by assumption)
  | with_reducible exact na_pages (by assumption)
  | with_reducible exact na_version (by assumption)
  | with_reducible exact na_marks (by assumption)
  | with_reducible exact isi_str (by assumption)
  | with_reducible exact isi_int (by assumption)
  | with_reducible exact isi_intbool (by assumption)
  | with_reducible exact isi_bool (by assumption)
  | with_reducible exact isi_tup (by assumption)
  | with_reducible exact isi_Cutter (by assumption)
  | with_reducible exact isi_Rule (by assumption)
  | with_reducible exact isi_Inbox (by assumption)
  | with_reducible exact rc_lenT
  | with_reducible exact rc_lenL
  | with_reducible apply rc_lenS
  | with_reducible exact rc_abs
  | with_reducible exact rc_max
  | with_reducible exact rc_min
  | with_reducible exact rc_int
  | with_reducible exact rc_intB
  | with_reducible exact rv_inSign
  | with_reducible exact rv_inT
  | with_reducible exact rv_inL
  | with_reducible exact rv_ninL
  | with_reducible exact rv_ixT0
  | with_reducible exact rv_ixT1
  | with_reducible exact rv_ixT2
  | with_reducible exact rv_ixT3
  | with_reducible exact rv_ixL0
  | with_reducible exact rv_ixL1
  | with_reducible exact rv_ixL2))
theorem st_dcC {B : Bs} {L : List Addr} {ctx : Ct} {D : Ends} {σ : L2.St} {G H : Hp} {wi : TI} {mm : List Int} {i j : Nat} {self : Addr × Cell} (hi : EvI B L wi ctx [self] (mm.map rI) [self]) (nd : mm.Nodup) (hl : mm.length ≤ 1000) (hic : i < ctx.length) (S : Sx B L ctx [self] σ G H)
    (k : ∀ c σ' G' H', Same G G' → Sx B L (ctx.set j (some (rDct (refsD c mm)))) (self :: cellsD c (fun _ => []) mm) σ' G' H' → D.nx σ' H') : tAsg (tDc wi (gName i) tYes (tVar i) tDNewK [i]) (gName j) D σ H :=
  ev_dcC hi nd hl hic S fun c v G' H' e S' hv => k c _ G' H' e (S'.set hv)
abbrev insS (o y : Int) (S : Int → List Int) : Int → List Int := fun o' => if o' = o then insL y (S o) else S o'
abbrev mrgS (o : Int) (Z : List Int) (S : Int → List Int) : Int → List Int := fun o' => if o' = o then mrg (S o) Z else S o'
theorem mem_insS {o y x z : Int} {S : Int → List Int} : z ∈ insS o y S x ↔ z ∈ S x ∨ (x = o ∧ z = y) := by
  by_cases e : x = o
  · subst e; simp only [insS, if_pos]; rw [mem_insL]; simp
  · simp [insS, e]
theorem mem_mrgS {o x z : Int} {Z : List Int} {S : Int → List Int} : z ∈ mrgS o Z S x ↔ z ∈ S x ∨ (x = o ∧ z ∈ Z) := by
  by_cases e : x = o
  · subst e; simp only [mrgS, if_pos]; rw [mem_mrg]; simp
  · simp [mrgS, e]
structure Nbr (mm : List Int) (ad : Int → Int → Bool) (S : Int → List Int) : Prop where
  nd : ∀ x ∈ mm, (S x).Nodup
  sd : ∀ x ∈ mm, ∀ y ∈ S x, y ∈ mm ∧ ad x y = true
theorem Nbr.ins {mm : List Int} {ad : Int → Int → Bool} {S : Int → List Int} (h : Nbr mm ad S) {o y : Int} (hy : y ∈ mm) (ha : ad o y = true) : Nbr mm ad (insS o y S) := by
  refine ⟨fun x hx => ?_, fun x hx z hz => ?_⟩
  · by_cases e : x = o
    · subst e; simp only [insS, if_pos]; exact nd_insL (h.nd x hx)
    · simp only [insS, if_neg e]; exact h.nd x hx
  · rcases mem_insS.mp hz with q | ⟨q1, q2⟩
    · exact h.sd x hx z q
    · subst q1 q2; exact ⟨hy, ha⟩
theorem Nbr.mrg {mm : List Int} {ad : Int → Int → Bool} {S : Int → List Int} (h : Nbr mm ad S) {o : Int} {Z : List Int} (hz : ∀ y ∈ Z, y ∈ mm ∧ ad o y = true) : Nbr mm ad (mrgS o Z S) := by
  refine ⟨fun x hx => ?_, fun x hx z hz' => ?_⟩
  · by_cases e : x = o
    · subst e; simp only [mrgS, if_pos]; exact nd_mrg (h.nd x hx)
    · simp only [mrgS, if_neg e]; exact h.nd x hx
  · rcases mem_mrgS.mp hz' with q | ⟨q1, q2⟩
    · exact h.sd x hx z q
    · subst q1; exact hz z q2
theorem Nbr.len {mm : List Int} {ad : Int → Int → Bool} {S : Int → List Int} (h : Nbr mm ad S) {x : Int} (hx : x ∈ mm) : (S x).length ≤ mm.length := nodup_le (h.nd x hx) fun y hy => (h.sd x hx y hy).1
theorem adj_dir {se : Bool} {b : Int → List Int} {x y : Int} (h : x ∈ b y ∨ y ∈ b x) (ne : x ≠ y) : adj se b x y = true := by
  unfold adj
  rw [decide_eq_true ne]
  rcases h with q | q <;> simp [q]
section
variable {P : Program} {w : World} {K : PySem.W.Frag} {mg : Str → Option Value} {base : Heap}
structure NeX where
  a : Addr
  dx : Addr
  fs : List (Str × Rp)
  mm : List Int
  b : Int → List Int
  se : Bool
  ps : List Pt
structure NeX.ok (K : Fr) (x : NeX) : Prop where
  lt : x.mm.Pairwise (· < ·)
  len : x.mm.length ≤ 100
  bl : ∀ m ∈ x.mm, (x.b m).length ≤ 50
  ns : ∀ m ∈ x.mm, m ∉ x.b m
  bd : x.fs.lookup ("own_bound" : Str) = some (rBd x.mm x.b)
  mks : x.fs.lookup ("own_marks" : Str) = some (rInts x.mm)
  ru : x.fs.lookup ("own_rule" : Str) = some (rRule K x.ps x.se)
  ho : x.fs.lookup ("holders" : Str) = none
abbrev NeX.c (K : Fr) (x : NeX) : Ms := [(x.a, .ins (He.ga K "Page") x.dx x.fs)]
abbrev spNeigh (K : Fr) : Sp := spF (fun (x : NeX) L => x.ok K ∧ L = []) (fun x => [rV (.ref x.a)]) (fun x => x.c K) (fun x => x.c K) (fun x => rNear x.mm x.b x.se)
structure Rows (mm : List Int) (b : Int → List Int) (se : Bool) (rows : List (List Int)) : Prop where
  A : ∀ l ∈ rows, se = true ∧ ∃ o, ∀ x ∈ l, x ∈ mm ∧ o ∈ b x ++ [x]
  B : se = true → ∀ x ∈ mm, ∀ y ∈ mm, ∀ o, o ∈ b x → o ∈ b y → ∃ l ∈ rows, x ∈ l ∧ y ∈ l
  n1 : rows.length ≤ 10000
  n2 : ∀ l ∈ rows, l.length ≤ 10000
theorem sc_Page_neighbours : FnScope ["self", "found", "mark", "bound", "one", "rows", "letters", "other", "others"] ["self"] (defScope s_Page_neighbours) := ⟨rfl, rfl, rfl, by decide +kernel, rfl, by decide +kernel, by decide +kernel⟩
theorem mt_Page_neighbours (T : Tx P w K mg base) : Mt P w K mg base 2 (He.ga K "Page") "neighbours" (spNeigh K) := by
  obtain ⟨fd, F⟩ := T.def_ di_Page_neighbours
  refine ⟨_, T.meth fi_meth_Page_neighbours, fnR_of F sc_Page_neighbours (fun _ => rfl) (fun _ _ _ _ _ _ us hl => match us, hl with | [_], _ => rfl) fun cdv A outer s H0 vs Q E hr z L G hp k S => ?_⟩
  have m_Page_holders := mt_Page_holders T
  obtain ⟨a, dx, fs, mm, b, se, ps⟩ := z
  obtain ⟨⟨hlt, hlen, hbl, hns, hbd, hmk, hru, hho⟩, rfl⟩ := hp
  dsimp only at hlt hlen hbl hns hbd hmk hru hho k
  have hnd : mm.Nodup := hlt.imp fun h => by omega
  refine ⟨_, (pss_cons (ps_setDc (i := 1) (own := [("mark", 2)]) rfl sc_Page_neighbours.nd rfl rfl (sw_trueD rfl rfl rfl (by decide +kernel)) (pi_tupK (K := K) (pe_fldK (K := K) (pv 0) rfl)) (blkOk_by (own := [("mark", 2)]) (N := ["self", "found", "mark", "bound", "one", "rows", "letters", "other", "others"]) (sc := defScope s_Page_neighbours) (by decide +kernel)) (fun _ _ _ _ _ => (pg_name (i := 2) sc_Page_neighbours.nd rfl (Or.inl rfl) (Or.inr rfl))) (fun _ _ _ _ _ => pts_nil) (fun _ _ _ _ _ => (pv 2)) (fun _ _ _ _ _ => pe_dnewK))
    (pss_cons (ps_lock (ps_for PassesOwn.never rfl (pi_items (pe_fldK (K := K) (pv 0) rfl)) (pg_tupK (K := K) (n := 2) rfl (pgs_cons (pg_name (i := 2) sc_Page_neighbours.nd rfl (Or.inr rfl)) (pgs_cons (pg_name (i := 3) sc_Page_neighbours.nd rfl (Or.inl rfl)) pgs_nil)))
      (pss_one (ps_for PassesOwn.never rfl (pi_tupK (K := K) (pv 3)) (pg_name (i := 4) sc_Page_neighbours.nd rfl (Or.inl rfl))
      (pss_one (ps_if (pt_cmp (pc_din (hu_of hr) (pv 4) (pv 1))) (pss_cons (ps_dput (hu_of hr) (pe_dget (hu_of hr) (pv 1) (pv 4) (fun _ _ => rfl)) (pv 2) pe_bl rfl)
    (pss_one (ps_dput (hu_of hr) (pe_dget (hu_of hr) (pv 1) (pv 2) (fun _ _ => rfl)) (pv 4) pe_bl rfl))) pss_nil))))))
    (pss_cons (ps_set (i := 5) sc_Page_neighbours.nd rfl (Or.inl rfl) (pe_ifExp (pt_val (pe_fldK (K := K) (pe_fldK (K := K) (pv 0) rfl) rfl)) (pe_listVals rfl (pe_mt0 (T.cls fi_cls_Page) m_Page_holders hr (by decide) (pv 0)) (by rfl) (T.free fi_free_list) (by decide +kernel)) (pe_lst pa_nil)))
    (pss_cons (ps_for PassesOwn.never rfl (pi_listK (K := K) (pv 5)) (pg_name (i := 6) sc_Page_neighbours.nd rfl (Or.inl rfl))
      (pss_one (ps_for PassesOwn.never rfl (pi_listK (K := K) (pv 6)) (pg_name (i := 2) sc_Page_neighbours.nd rfl (Or.inr rfl))
      (pss_one (ps_expr (pe_bmK (K := K) PySem.F.plainAttrs_dict PySem.F.slot_dict_update PySem.F.type_dict_update mt_dupd (pe_dget (hu_of hr) (pv 1) (pv 2) (fun _ _ => rfl)) (pa_cons (pe_dc (own := [("other", 7)]) rfl sc_Page_neighbours.nd (pi_listK (K := K) (pv 6)) (blkOk_by (own := [("other", 7)]) (N := ["self", "found", "mark", "bound", "one", "rows", "letters", "other", "others"]) (sc := defScope s_Page_neighbours) (by decide +kernel)) (fun _ _ _ _ _ => (pg_name (i := 7) sc_Page_neighbours.nd rfl (Or.inl rfl) (Or.inr rfl))) (fun _ _ _ _ _ => (pts_one (pt_cmpR op_ne (pv 7) (pv 2) (nomark _)))) (fun _ _ _ _ _ => (pv 7)) (fun _ _ _ _ _ => pe_bl)) pa_nil)))))))
    (pss_one (ps_ret (pe_lock (pe_dc (own := [("mark", 2), ("others", 8)]) rfl sc_Page_neighbours.nd (pi_items (pv 1)) (blkOk_by (own := [("mark", 2), ("others", 8)]) (N := ["self", "found", "mark", "bound", "one", "rows", "letters", "other", "others"]) (sc := defScope s_Page_neighbours) (by decide +kernel)) (fun _ _ _ _ _ => (pg_tupK (K := K) (n := 2) rfl (pgs_cons (pg_name (i := 2) sc_Page_neighbours.nd rfl (Or.inl rfl) (Or.inr rfl)) (pgs_cons (pg_name (i := 8) sc_Page_neighbours.nd rfl (Or.inl rfl) (Or.inr rfl)) pgs_nil)))) (fun _ _ _ _ _ => pts_nil) (fun _ _ _ _ _ => (pv 2)) (fun _ _ _ _ _ => (pe_callB (id := "sorted") (cr_sortedK (K := K)) (by rfl) (T.free fi_free_sorted) (by decide +kernel) (pa_cons (pe_callTy (T := "list") (call_list_dK rfl) (by rfl) (T.free fi_free_list) (by decide +kernel) (pa_cons (pv 8) pa_nil)) pa_nil))))))))))), ?_⟩
  try dsimp only [L2.cxOf]
  refine st_dcC (i := 2) (j := 1) (mm := mm) (ei_tup (ev_fldM (j := 0) (ev_var rfl) rfl (cls_Page T) (na_pmarks T) hmk)) hnd (by omega) (by simp) S fun c σ1 G1 H1 e1 S1 => ?_
  dsimp only
  refine st_lock (turns_fld (j := 0) (a := a) (f := "own_bound") rfl hbd) S1 fun d' kvs o hd' S2 S2' => ?_
  refine st_for (ι := Int → List Int) (ei_items (ev_fldM (j := 0) (ev_var rfl) rfl (cls_Page T) (na_bound T) (lookR_same hbd))) S2' (fun i S => Nbr mm (adj se b) S ∧ ∀ x ∈ mm.take i, ∀ o ∈ b x, o ∈ mm → x ∈ S o ∧ o ∈ S x)
    (fun _ => [some (rV (.ref a)), some (rDct (refsD c mm)), none, none, none, none, none, none, none]) (fun S => (a, .ins (He.ga K "Page") dx (putR "own_bound" (rDctAt d' (mm.map fun m => (m, rInts (b m)))) fs)) :: cellsD c S mm) (fun _ => [])
    ⟨⟨by simp, by simp⟩, by simp⟩ (fun B σ G H S => S) (fun B1 G4 H4 i r T0 σ5 G5 H5 e4 hr hx e5 hl un sm S5 => ?_) (fun T0 σ5 G5 H5 hx e4 S5 => ?_)
  · obtain ⟨hN, hC⟩ := hx
    rw [List.map_map, List.getElem?_map] at hr
    cases hq : mm[i]? with
    | none => rw [hq] at hr; cases hr
    | some m =>
      rw [hq] at hr
      cases hr
      have hm : m ∈ mm := List.mem_of_getElem? hq
      have bm := hbl m hm
      refine ⟨_, [2, 3], gm_tup2 (r1 := rI m) (r2 := rInts (b m)) (by simp) (by simp), fun σ6 G6 H6 e6 S6 => ?_⟩
      refine st_for (ι := Int → List Int) (ei_tup (ev_var rfl)) S6 (fun j S => Nbr mm (adj se b) S ∧ (∀ x z, z ∈ T0 x → z ∈ S x) ∧ ∀ o ∈ (b m).take j, o ∈ mm → m ∈ S o ∧ o ∈ S m)
        (fun _ => [some (rV (.ref a)), some (rDct (refsD c mm)), some (rI m), some (rInts (b m)), none, none, none, none, none]) (fun S => (a, .ins (He.ga K "Page") dx (putR "own_bound" (rDctAt d' (mm.map fun m => (m, rInts (b m)))) fs)) :: cellsD c S mm) T0
        ⟨hN, fun _ _ h => h, by simp⟩ (fun B σ G H S => S) (fun B2 G7 H7 j r T1 σ8 G8 H8 e7 hr hx e8 hl2 un2 sm2 S8 => ?_) (fun T1 σ8 G8 H8 hx e7 S8 => ?_)
      · obtain ⟨hN1, hM1, hC1⟩ := hx
        rw [List.getElem?_map] at hr
        cases hq2 : (b m)[j]? with
        | none => rw [hq2] at hr; cases hr
        | some o =>
          rw [hq2] at hr
          cases hr
          have hob : o ∈ b m := List.mem_of_getElem? hq2
          have ne : o ≠ m := fun e => hns m hm (by rw [e] at hob; exact hob)
          refine ⟨_, [4], gm_name (by simp), fun σ9 G9 H9 e9 S9 => ?_⟩
          refine st_ifP (decide (o ∈ mm)) (et_b (et_B (ev_din (ks := refsD c mm) (ev_var rfl) (ev_var rfl))) (by rw [look_map (g := fun m => m) (f := fun o => rV (.ref (c o))), List.map_id'])) S9 fun G10 H10 e10 S10 => ⟨fun hb => ?_, fun hb => ?_⟩
          · have ho : o ∈ mm := of_decide_eq_true hb
            have l1 := hN1.len ho
            have hN2 := hN1.ins hm (o := o) (adj_dir (se := se) (.inl hob) ne)
            have l2 := hN2.len hm
            have hN3 := hN2.ins ho (o := m) (adj_dir (se := se) (.inr hob) (Ne.symm ne))
            refine st_putC (o := o) (y := m) rfl rfl rfl S10 hnd ho (by omega) fun G11 H11 e11 S11 => ?_
            dsimp only
            refine st_putC (S0 := insS o m T1) (o := m) (y := o) rfl rfl rfl S11 hnd hm (by omega) fun G12 H12 e12 S12 => ?_
            refine ⟨insS m o (insS o m T1), G12, ⟨hN3, fun x z h => mem_insS.mpr (.inl (mem_insS.mpr (.inl (hM1 x z h)))), fun o' ho' hmm => ?_⟩, S12.weak (by repeat' constructor)⟩
            rw [take_at hq2, List.mem_append, List.mem_singleton] at ho'
            rcases ho' with q | q
            · obtain ⟨q1, q2⟩ := hC1 o' q hmm
              exact ⟨mem_insS.mpr (.inl (mem_insS.mpr (.inl q1))), mem_insS.mpr (.inl (mem_insS.mpr (.inl q2)))⟩
            · subst q
              exact ⟨mem_insS.mpr (.inl (mem_insS.mpr (.inr ⟨rfl, rfl⟩))), mem_insS.mpr (.inr ⟨rfl, rfl⟩)⟩
          · have ho : o ∉ mm := of_decide_eq_false hb
            refine ⟨T1, G10, ⟨hN1, hM1, fun o' ho' hmm => ?_⟩, S10.weak (by repeat' constructor)⟩
            rw [take_at hq2, List.mem_append, List.mem_singleton] at ho'
            rcases ho' with q | q
            · exact hC1 o' q hmm
            · subst q; exact absurd hmm ho
      · obtain ⟨hN1, hM1, hC1⟩ := hx
        rw [List.length_map, List.take_length] at hC1
        refine ⟨T1, G8, ⟨hN1, fun x hx o ho hom => ?_⟩, S8.weak (by repeat' constructor)⟩
        rw [take_at hq, List.mem_append, List.mem_singleton] at hx
        rcases hx with q | q
        · obtain ⟨q1, q2⟩ := hC x q o ho hom
          exact ⟨hM1 _ _ q1, hM1 _ _ q2⟩
        · subst q; exact hC1 o ho hom
  · obtain ⟨hN, hC⟩ := hx
    rw [List.map_map, List.length_map, List.take_length] at hC
    obtain ⟨z1, z2⟩ := S2.unlock hd' S5
    refine ⟨z1, ?_⟩
    have S6 := z2.tell (j := 0) rfl (fun gs q => AlF.un hbd q)
    dsimp only
    refine st_setP (i := 5) (rEx (fun rows : List (List Int) => Rows mm b se rows) fun rows => rLst (rows.map fun l => rLst (l.map rI))) (ms := (a, .ins (He.ga K "Page") dx fs) :: cellsD c T0 mm) ?_ S6 fun σ7 G7 H7 e7 S7 => ?_
    · refine ev_if (b := se) (et_val (ev_fld (ev_fldM (j := 0) (ev_var rfl) rfl (cls_Page T) (na_rule T) hru) (cls_Rule T) (na_sees T) rfl)) (fun hse => ?_) (fun hse => ?_)
      · refine ev_imp (ev_listVals (ev_mtM0 (rs := fun x : HoX => rEx (fun z : List Int × (Int → List Int) => HoR x.mm x.b z.1 z.2) fun z => rDct (z.1.map fun o => (o, rLst ((z.2 o).map rI)))) (ls := []) (⟨a, dx, fs, mm, b⟩ : HoX) 0 0 (ev_var rfl) rfl hho ea_nil rfl rfl ⟨⟨hlen, hbl, hbd⟩, rfl⟩ rfl rfl)) fun v G ⟨⟨os, l⟩, hz, hv⟩ => ⟨os.map l, ⟨fun r hr => ?_, fun _ x hx y hy o ho1 ho2 => ?_, by rw [List.length_map]; exact hz.n1, fun r hr => ?_⟩, ?_⟩
        · obtain ⟨o, ho, e⟩ := List.mem_map.mp hr
          subst e
          exact ⟨hse, o, fun x hx => hz.A o ho x hx⟩
        · obtain ⟨q1, q2⟩ := hz.B x hx o (List.mem_append_left _ ho1)
          obtain ⟨q3, q4⟩ := hz.B y hy o (List.mem_append_left _ ho2)
          exact ⟨l o, List.mem_map.mpr ⟨o, q1, rfl⟩, q2, q4⟩
        · obtain ⟨o, ho, e⟩ := List.mem_map.mp hr
          subst e
          exact hz.n2 o ho
        · dsimp only at hv ⊢
          rw [List.map_map] at hv ⊢
          exact hv
      · exact ev_imp (ev_lst (rs := []) ea_nil (by simp)) fun v G hv => ⟨[], ⟨by simp, fun h => (by rw [hse] at h; cases h), by simp, by simp⟩, hv⟩
    obtain ⟨rows, hR, S7⟩ := S7.open_ (i := 5) rfl
    dsimp only
    have n1 := hR.n1
    refine st_for (ι := Int → List Int) (ei_list (ev_var rfl)) S7 (fun i S => Nbr mm (adj se b) S ∧ (∀ x z, z ∈ T0 x → z ∈ S x) ∧ ∀ l ∈ rows.take i, ∀ x ∈ l, ∀ y ∈ l, y ≠ x → y ∈ S x)
      (fun _ => [some (rV (.ref a)), some (rDct (refsD c mm)), none, none, none, some (rLst (rows.map fun l => rLst (l.map rI))), none, none, none]) (fun S => (a, .ins (He.ga K "Page") dx fs) :: cellsD c S mm) T0
      ⟨hN, fun _ _ h => h, by simp⟩ (fun B σ G H S => S.weak (by repeat' constructor)) (fun B2 G8 H8 i r T1 σ9 G9 H9 e8 hr hx e9 hl2 un2 sm2 S9 => ?_) (fun T1 σ9 G9 H9 hx e8 S9 => ?_)
    · obtain ⟨hN1, hM1, hC1⟩ := hx
      rw [List.getElem?_map] at hr
      cases hq : rows[i]? with
      | none => rw [hq] at hr; cases hr
      | some l =>
        rw [hq] at hr
        cases hr
        have hlr : l ∈ rows := List.mem_of_getElem? hq
        obtain ⟨hse, o, hA⟩ := hR.A l hlr
        have n2 := hR.n2 l hlr
        refine ⟨_, [6], gm_name (by simp), fun σ10 G10 H10 e10 S10 => ?_⟩
        refine st_for (ι := Int → List Int) (ei_list (ev_var rfl)) S10 (fun j S => Nbr mm (adj se b) S ∧ (∀ x z, z ∈ T1 x → z ∈ S x) ∧ ∀ x ∈ l.take j, ∀ y ∈ l, y ≠ x → y ∈ S x)
          (fun _ => [some (rV (.ref a)), some (rDct (refsD c mm)), none, none, none, some (rLst (rows.map fun l => rLst (l.map rI))), some (rLst (l.map rI)), none, none]) (fun S => (a, .ins (He.ga K "Page") dx fs) :: cellsD c S mm) T1
          ⟨hN1, fun _ _ h => h, by simp⟩ (fun B σ G H S => S.weak (by repeat' constructor)) (fun B3 G11 H11 j r T2 σ12 G12 H12 e11 hr hx e12 hl3 un3 sm3 S12 => ?_) (fun T2 σ12 G12 H12 hx e11 S12 => ?_)
        · obtain ⟨hN2, hM2, hC2⟩ := hx
          rw [List.getElem?_map] at hr
          cases hq2 : l[j]? with
          | none => rw [hq2] at hr; cases hr
          | some m =>
            rw [hq2] at hr
            cases hr
            have hml : m ∈ l := List.mem_of_getElem? hq2
            obtain ⟨hm, hom⟩ := hA m hml
            have l1 := hN2.len hm
            obtain ⟨jj, hj0, hj1⟩ := List.mem_iff_getElem.mp hm
            have hj : mm[jj]? = some m := by rw [List.getElem?_eq_getElem hj0, hj1]
            have ca : ((a, Cell.ins (He.ga K "Page") dx fs) :: cellsD c T2 mm)[jj + 1]? = some (c m, .dct (trues (T2 m))) := cell_at hj
            refine ⟨_, [2], gm_name (by simp), fun σ13 G13 H13 e13 S13 => ?_⟩
            refine ev_dupdX (P := fun Z : List Int => Z.Nodup ∧ ∀ y, y ∈ Z ↔ y ∈ l ∧ y ≠ m) (f := trues) (d := c m) (ks := trues (T2 m)) (j := jj + 1) (ms1 := (a, .ins (He.ga K "Page") dx fs) :: cellsD c T2 mm) (ms2 := (a, .ins (He.ga K "Page") dx fs) :: cellsD c T2 mm) (ev_dget (ev_var rfl) (ev_var rfl) (look_fn (f := fun o => rV (.ref (c o))) hm)) (ea_cons (ev_dcT (l := l) (m := m) (ei_list (ev_var rfl)) (by omega) rfl (by decide) (by simp)) ea_nil) ⟨_, _, ca⟩ ca (fun Z hZ => ?_) S13 fun Z G14 H14 ⟨zn, hz⟩ e14 S14 => ?_
            · have : Z.length ≤ mm.length := nodup_le hZ.1 fun y hy => (hA y ((hZ.2 y).mp hy).1).1
              rw [List.length_map, List.length_map]; omega
            · rw [merge_trues, cell_set hnd hj] at S14
              refine ⟨mrgS m Z T2, G14, ⟨hN2.mrg fun y hy => ?_, fun x z h => mem_mrgS.mpr (.inl (hM2 x z h)), fun x hx y hy ne => ?_⟩, S14.weak (by repeat' constructor)⟩
              · obtain ⟨hyl, hne⟩ := (hz y).mp hy
                obtain ⟨hym, hoy⟩ := hA y hyl
                refine ⟨hym, ?_⟩
                rw [List.mem_append, List.mem_singleton] at hom hoy
                rcases hom with q1 | q1
                · rcases hoy with q2 | q2
                  · unfold adj
                    rw [decide_eq_true (Ne.symm hne), hse]
                    have : ((b m).any fun s => decide (s ∈ b y)) = true := List.any_eq_true.mpr ⟨o, q1, decide_eq_true q2⟩
                    simp [this]
                  · subst q2; exact adj_dir (.inr q1) (Ne.symm hne)
                · rcases hoy with q2 | q2
                  · subst q1; exact adj_dir (.inl q2) (Ne.symm hne)
                  · exact absurd (q2.symm.trans q1) hne
              · rw [take_at hq2, List.mem_append, List.mem_singleton] at hx
                rcases hx with q | q
                · exact mem_mrgS.mpr (.inl (hC2 x q y hy ne))
                · subst q; exact mem_mrgS.mpr (.inr ⟨rfl, (hz y).mpr ⟨hy, ne⟩⟩)
        · obtain ⟨hN2, hM2, hC2⟩ := hx
          rw [List.length_map, List.take_length] at hC2
          refine ⟨T2, G12, ⟨hN2, fun x z h => hM2 _ _ (hM1 _ _ h), fun l' hl' x hx y hy ne => ?_⟩, S12.weak (by repeat' constructor)⟩
          rw [take_at hq, List.mem_append, List.mem_singleton] at hl'
          rcases hl' with q | q
          · exact hM2 _ _ (hC1 l' q x hx y hy ne)
          · subst q; exact hC2 x hx y hy ne
    · obtain ⟨hN1, hM1, hC1⟩ := hx
      rw [List.length_map, List.take_length] at hC1
      have full : ∀ x ∈ mm, ∀ y, y ∈ T1 x ↔ y ∈ nbs mm b se x := fun x hx y => by
        rw [List.mem_filter]
        constructor
        · intro h; exact hN1.sd x hx y h
        · rintro ⟨hy, ha⟩
          have ha : adj se b x y = true := ha
          unfold adj at ha
          simp only [Bool.and_eq_true, Bool.or_eq_true, decide_eq_true_eq] at ha
          obtain ⟨ne, (q | q) | ⟨hse, q⟩⟩ := ha
          · exact hM1 _ _ (hC y hy x q hx).1
          · exact hM1 _ _ (hC x hx y q hy).2
          · obtain ⟨s, h1, h2⟩ := List.any_eq_true.mp q
            obtain ⟨l, hl, hxl, hyl⟩ := hR.B hse x hx y hy s h1 (of_decide_eq_true h2)
            exact hC1 l hl x hxl y hyl (Ne.symm ne)
      dsimp only
      refine st_retP (rNear mm b se) (ms := (a, .ins (He.ga K "Page") dx fs) :: cellsD c T1 mm) (ev_lock (turns_slot (i := 1) (r := rDct (refsD c mm)) (r' := fun d => rDctAt d (refsD c mm)) rfl fun v G h => rDct_at h) (ms1' := fun _ => (a, .ins (He.ga K "Page") dx fs) :: cellsD c T1 mm) (fun d B => ?_) (fun {B σ G H} d S => S.turn (i := 1) rfl fun v h => rDctAt_to h)) S9 fun v G' H' e S' hv => k _ _ G' H' (S'.cells (fun p hp => by rw [List.mem_singleton.mp hp]; exact List.mem_cons_self) (by simp)) v hv
      refine ev_dcA mm (f := fun m => rTup [rI m, rV (.ref (c m))]) (x := fun m => m) (e := fun m => rLst ((nbs mm b se m).map rI)) (ei_is (ei_items (ev_var rfl)) (by rw [List.map_map]; rfl)) (by omega) (by rw [List.map_id']; exact hnd) (fun m hm => gm_tup2 (by simp) (by simp)) (fun m hm B => ev_var rfl) fun m hm B => ?_
      obtain ⟨jj, hj0, hj1⟩ := List.mem_iff_getElem.mp hm
      have hj : mm[jj]? = some m := by rw [List.getElem?_eq_getElem hj0, hj1]
      refine ev_imp (ev_cb (ea_cons (ev_is (r2 := rLst ((T1 m).map rI)) (ev_cb (ea_cons (ev_var rfl) ea_nil) (rc_listDM (cell_at hj))) (by rw [List.map_map]; rfl)) ea_nil) (rc_sortedL (ns := T1 m))) fun v G ⟨ns, ⟨p1, p2⟩, hv⟩ => ?_
      have pm : (T1 m).Perm (nbs mm b se m) := (List.perm_ext_iff_of_nodup (hN1.nd m hm) (hnd.sublist List.filter_sublist)).mpr (full m hm)
      have : ns = nbs mm b se m := sorted_uniq (p1.trans pm) p2 ((hlt.imp fun h => by omega : mm.Pairwise (· ≤ ·)).sublist List.filter_sublist)
      rw [this] at hv
      exact hv
end
end K62
set_option maxHeartbeats 4000000
/-! K62Fc: a dict's cell by comprehension. -/
namespace K62
open PySem PySem.Spec PyProof.Rows L2
section
variable {B : Bs} {L : List Addr} {ctx : Ct} {ms ms1 : Ms} {te tk ta tb : TE} {tl : TA} {tt : TT} {wi : TI} {g : TG} {r : Rp} {rs : List Rp} {K : PySem.W.Frag} {σ : L2.St} {G H : Hp} {vs : List V} {Q : VK}
theorem ev_dcM {γ ι : Type} {P : γ → Prop} {rsf : γ → List Rp} {vs : List Nat} {mf : ι → Ms} (inv : γ → Nat → ι → List (Int × Rp) → Prop) (a0 : ι) (hi : EvIx B L wi ctx ms P rsf (mf a0)) (hn : ∀ c, P c → (rsf c).length ≤ 100000) (h0 : ∀ c, P c → inv c 0 a0 [])
    (turn : ∀ (c : γ) (i : Nat) (r : Rp) (a : ι) (ys : List (Int × Rp)), P c → (rsf c)[i]? = some r → inv c i a ys → ∃ ctx1 : Ct, GM g r (wipeC ctx vs) ctx1 vs ∧ ∀ (B : Bs) (σ : L2.St) (G H : Hp), Sx B L ctx1 (mf a) σ G H → ∀ (Qy : V → V → Hp → Prop) (Qn : Hp → Prop),
      (∀ x v e a' G' H', inv c (i + 1) a' (putI x e ys) → Same G G' → Sx B L ctx1 (mf a') σ G' H' → e.ok v G' → Qy (.int x) v H') → (∀ a' G' H', inv c (i + 1) a' ys → Same G G' → Sx B L ctx1 (mf a') σ G' H' → Qn H') → tt σ H fun b H3 => if b = true then tk σ H3 fun y H4 => te σ H4 fun z H5 => Qy y z H5 else Qn H3)
    (S : Sx B L ctx ms σ G H) (k : ∀ c a ys D G' H', P c → inv c (rsf c).length a ys → Same G G' → Sx B L ctx ((D, .dct ys) :: mf a) σ G' H' → Q (.ref D) H') : tDc wi g tt tk te vs σ H Q := hi σ G H S _ fun c J G1 H1 pc e1 S1 src => by
  intro D hD
  have gD : G1 D = none := S1.ex.free hD
  have dL : ∀ d ∈ L, d ≠ D := fun d hd e => by
    obtain ⟨o, ho⟩ := S1.ex.lk d hd
    rw [e, gD] at ho
    cases ho
  -- cells are not D, wherever D stands
  have ne_of : ∀ {ms' : Ms} {ctx' : Ct} {σ' : L2.St} {G H : Hp}, Sx ⟨(mf a0).map (·.1), G1, H1⟩ L ctx' ms' σ' G H → G D = none → True := fun _ _ => trivial
  let W : Nat → Hp → Prop := fun i H => i ≤ (rsf c).length ∧ ∃ a ys xs G, inv c i a ys ∧ ys.length ≤ i ∧ H D = some (.dK xs) ∧ AlK ys xs G ∧ Same G1 G ∧ G D = none ∧ (∀ d ∈ L, H d = H1 d) ∧ (∀ p ∈ mf a, p.1 ≠ D) ∧ Sx ⟨(mf a0).map (·.1), G1, H1⟩ L ctx (mf a) σ G H
  have reD : ∀ {xs : List (Key × V)} {G H : Hp} {σ' : L2.St} {ctx' : Ct} {ms' : Ms}, (∀ p ∈ ms', p.1 ≠ D) → G D = none → Sx ⟨(mf a0).map (·.1), G1, H1⟩ L ctx' ms' σ' G H → Sx ⟨(mf a0).map (·.1), G1, H1⟩ L ctx' ms' σ' G (upd H D (.dK xs)) := fun {xs G H σ' ctx' ms'} hne hG S => by
    refine ⟨S.sl, S.ex.up fun b u n e => by rw [upd_ne (fun z => n (by rw [z]; exact hG))]; exact e, ⟨fun q hq => (S.mem.at_ q hq).move (Same.refl G) (upd_ne (hne q hq)), S.mem.out, S.mem.nd⟩, ⟨S.stp.old, fun b u n e => ?_, fun b u e => ?_⟩, S.own⟩
    · have : b ≠ D := ne_of_none e hD
      rw [upd_ne this]
      exact S.stp.keep b u n e
    · have : b ≠ D := ne_of_none e hD
      rw [upd_ne this]
      exact S.stp.there b u e
  have ms0 : ∀ p ∈ mf a0, p.1 ≠ D := fun p hp e => by
    obtain ⟨u, hu⟩ := (S1.mem.at_ p hp).some_
    rw [e, hD] at hu
    cases hu
  refine ⟨fun i m H => m = (rsf c).length - i ∧ W i H, ⟨(rsf c).length, by simp, Nat.zero_le _, a0, [], [], G1, h0 c pc, Nat.le_refl _, upd_same, .nil, Same.refl G1, gD, fun d hd => upd_ne (dL d hd), ms0, reD ms0 gD S1.re⟩, ?_⟩
  rintro i m H' ⟨rfl, hle, a, ys, xs, G', hinv, hyl, hDx, hal, eG, gD', eL, msD, S'⟩
  by_cases hlt : i < (rsf c).length
  · have hr : (rsf c)[i]? = some (rsf c)[i] := List.getElem?_eq_getElem hlt
    obtain ⟨go, yld⟩ := src.go eG eL S' hr
    refine .inr ⟨go, W (i + 1), fun H'' w => ⟨(rsf c).length - (i + 1), by omega, rfl, w⟩, fun x H2 y => ?_⟩
    have SD : Sx ⟨(mf a).map (·.1), G', H'⟩ L ctx (mf a) σ G' H' := S'.re
    obtain ⟨go2, yld2⟩ := src.go eG eL SD hr
    obtain ⟨G2, e2, S3, hx⟩ := yld2 x H2 y
    obtain ⟨ctx1, hg, hb⟩ := turn c i _ a ys pc hr hinv
    have S3' : Sx ⟨(mf a).map (·.1), G', H'⟩ L (wipeC ctx vs) (mf a) (wipe σ vs) G2 H2 := S3.ctx_ (S3.sl.wipe vs)
    have nD : D ∉ (mf a).map (·.1) := fun z => by
      obtain ⟨q, hq, e⟩ := List.mem_map.mp z
      exact msD q hq e
    have keepD : ∀ {ctx' : Ct} {ms' : Ms} {σ' : L2.St} {G4 H4 : Hp}, Sx ⟨(mf a).map (·.1), G', H'⟩ L ctx' ms' σ' G4 H4 → H4 D = some (.dK xs) ∧ G4 D = none ∧ Same G' G4 ∧ (∀ d ∈ L, H4 d = H1 d) ∧ (∀ p ∈ ms', p.1 ≠ D) ∧ Sx ⟨(mf a0).map (·.1), G1, H1⟩ L ctx ms' σ G4 H4 := fun {ctx' ms' σ' G4 H4} S6 => by
      have e6 : Same G' G4 := S6.stp.same S'.ex
      refine ⟨S6.stp.keep D _ nD hDx, by rw [S6.stp.old D _ hDx]; exact gD', e6, fun d hd => ?_, fun p hp z => ?_, ?_⟩
      · rw [← eL d hd]; exact Sx.locks S' S6 d hd
      · rcases S6.own p hp with q | q
        · rw [z] at q; exact nD q
        · have q : H' p.1 = none := q
          rw [z, hDx] at q
          cases q
      · exact (S'.un S6).ctx_ (S'.sl.mono e6)
    refine hg _ L (mf a) (wipe σ vs) G2 H2 x S3' hx _ fun σ3 S4 hw => ⟨wipe_wipe hw |>.trans rfl, ?_⟩
    refine hb _ σ3 G2 H2 S4 _ _ (fun x v e a' G4 H4 hinv' e4 S6 hv => ?_) (fun a' G4 H4 hinv' e4 S6 => ?_)
    · obtain ⟨k1, k2, k3, k4, k5, k6⟩ := keepD S6
      have hz := hn c pc
      refine ⟨xs, Sum.inl x, rfl, k1, line_lt ?_, hlt, a', putI x e ys, putK xs (Sum.inl x) v, G4, hinv', Nat.le_trans putI_len (Nat.succ_le_succ hyl), upd_same, (hal.mono k3).put hv, eG.trans k3, k2, fun d hd => by rw [upd_ne (dL d hd)]; exact k4 d hd, k5, reD k5 k2 k6⟩
      rw [← Paired.length hal]
      omega
    · obtain ⟨k1, k2, k3, k4, k5, k6⟩ := keepD S6
      exact ⟨hlt, a', ys, xs, G4, hinv', by omega, k1, hal.mono k3, eG.trans k3, k2, k4, k5, k6⟩
  · have e : i = (rsf c).length := by omega
    subst e
    refine .inl ⟨src.stop eG eL S' (Nat.le_refl _), ?_⟩
    have S4 : Sx B L ctx (mf a) σ G' H' := S1.un S'
    have nD : D ∉ (mf a).map (·.1) := fun z => by
      obtain ⟨q, hq, e⟩ := List.mem_map.mp z
      exact msD q hq e
    refine k c a ys D G' H' pc hinv (e1.trans eG) ⟨S4.sl, S4.ex, ⟨fun q hq => ?_, fun q hq => ?_, ?_⟩, S4.stp, fun q hq => ?_⟩
    · rcases List.mem_cons.mp hq with z | z
      · subst z; exact .dct hDx hal
      · exact S4.mem.at_ q z
    · rcases List.mem_cons.mp hq with z | z
      · subst z; exact gD'
      · exact S4.mem.out q z
    · rw [List.map_cons]
      exact List.nodup_cons.mpr ⟨nD, S4.mem.nd⟩
    · rcases List.mem_cons.mp hq with z | z
      · subst z
        refine .inr ?_
        cases q : B.H D with
        | none => rfl
        | some u => obtain ⟨u', e'⟩ := S1.stp.there _ _ q; rw [hD] at e'; cases e'
      · exact S4.own q z

/-- {m: 0 for m in mm}, a cell -/
theorem ev_dcZ {mm : List Int} {i : Nat} (hi : EvI B L wi ctx ms (mm.map rI) ms) (nd : mm.Nodup) (hl : mm.length ≤ 1000) (hic : i < ctx.length) (S : Sx B L ctx ms σ G H)
    (k : ∀ d G' H', Same G G' → Sx B L ctx ((d, .dct (mm.map fun m => (m, rN_ 0))) :: ms) σ G' H' → Q (.ref d) H') : tDc wi (gName i) tYes (tVar i) (tC (.int 0)) [i] σ H Q := by
  refine ev_dcM (γ := Unit) (ι := Unit) (P := fun _ => True) (mf := fun _ => ms) (fun _ i _ ys => ys = (mm.take i).map fun m => (m, rN_ 0)) () (ei_ix hi) (fun _ _ => by rw [List.length_map]; omega) (fun _ _ => rfl) (fun _ j r x ys _ hr hy => ?_) S fun _ x ys D G' H' _ hy e' S' => ?_
  · rw [List.getElem?_map] at hr
    cases hq : mm[j]? with
    | none => rw [hq] at hr; cases hr
    | some m =>
      rw [hq] at hr
      cases hr
      have nin : m ∉ mm.take j := not_in_take nd hq
      refine ⟨_, gm_name (by simp), fun B σ G H S Qy Qn ky kn => ?_⟩
      unfold tYes
      dsimp only
      rw [if_pos rfl]
      have wl : (wipeC ctx [i]).length = ctx.length := by simp [wipeC]
      have c1 : ((wipeC ctx [i]).set i (some (rI m)))[i]? = some (some (rI m)) := List.getElem?_set_self (by rw [wl]; exact hic)
      refine ev_var c1 σ G H S _ fun v1 G2 H2 e2 S2 h1 => ?_
      have h1 : v1 = .int m := h1
      subst h1
      refine ky m (.int 0) (rN_ 0) () G2 H2 ?_ e2 S2 rfl
      rw [hy, putI_new fun p hp z => ?_, take_at hq, List.map_append]
      · rfl
      · obtain ⟨m', h1, h2⟩ := List.mem_map.mp hp
        subst h2
        exact nin (by rw [← z]; exact h1)
  · rw [List.length_map, List.take_length] at hy
    subst hy
    exact k D G' H' e' S'
end
theorem pick_mem {α : Type} {p : Pt} {xs : List α} {x : α} (h : x ∈ pick p xs) : x ∈ xs := by
  unfold pick at h
  obtain ⟨i, hi, e⟩ := List.mem_filterMap.mp h
  exact List.mem_of_getElem? e
theorem kept_mem {α : Type} {x : α} : ∀ {ps : List Pt} {xs : List α}, x ∈ kept ps xs → x ∈ xs
  | [], _, h => h
  | p :: ps, xs, h => pick_mem (kept_mem (ps := ps) (xs := pick p xs) h)
end K62
set_option maxHeartbeats 4000000
/-! K62Dv: the making of a page. -/
namespace K62
open PySem PySem.Spec PyProof.Rows L2
local macro_rules | `(tactic| walk_at "ev") => `(tactic| repeat' (first
  | ((with_reducible apply ev_var); exact rfl)
  | with_reducible exact ev_c
  | with_reducible exact ea_nil
  | with_reducible exact et_yes
  | with_reducible exact rv_I0
  | with_reducible exact eo_none
  | with_reducible apply eo_some
  | with_reducible apply ea_cons
  | with_reducible apply ev_op
  | (with_reducible apply ev_andV <;> try intro _)
  | (with_reducible apply ev_orV <;> try intro _)
  | with_reducible apply ev_notV
  | with_reducible apply ev_tup
  | with_reducible apply ev_lst
  | with_reducible apply ev_neg
  | with_reducible apply ev_cb
  | with_reducible apply et_B
  | with_reducible apply et_val
  | with_reducible apply et_not
  | (with_reducible apply et_and <;> try intro _)
  | (with_reducible apply et_or <;> try intro _)
  | with_reducible apply ev_call
  | with_reducible apply ev_fld
  | with_reducible exact cls_Cutter (by assumption)
  | with_reducible exact cls_Rule (by assumption)
  | with_reducible exact cls_Page (by assumption)
  | with_reducible exact cls_Inbox (by assumption)
  | with_reducible exact na_parts (by assumption)
  | with_reducible exact na_tables (by assumption)
  | with_reducible exact na_whole (by assumption)
  | with_reducible exact na_cutter (by assumption)
  | with_reducible exact na_sees (by assumption)
  | with_reducible exact na_rule (by assumption)
  | with_reducible exact na_pmarks (by assumption)
  | with_reducible exact na_letters (by assumption)
  | with_reducible exact na_bound (by assumption)
  | with_reducible exact na_shown (by assumption)
  | with_reducible exact na_moves (by assumption)
  | with_reducible exact na_near (by assumption)
  | with_reducible exact na_groups (by assumption)
  | with_reducible exact na_pages (by assumption)
  | with_reducible exact na_version (by assumption)
  | with_reducible exact na_marks (by assumption)
  | with_reducible exact isi_str (by assumption)
  | with_reducible exact isi_int (by assumption)
  | with_reducible exact isi_intbool (by assumption)
  | with_reducible exact isi_bool (by assumption)
  | with_reducible exact isi_tup (by assumption)
  | with_reducible exact isi_Cutter (by assumption)
  | with_reducible exact isi_Rule (by assumption)
  | with_reducible exact isi_Inbox (by assumption)
  | with_reducible exact rc_lenT
  | with_reducible exact rc_lenL
  | with_reducible apply rc_lenS
  | with_reducible exact rc_abs
  | with_reducible exact rc_max
  | with_reducible exact rc_min
  | with_reducible exact rc_int
  | with_reducible exact rc_intB
  | with_reducible exact rv_inSign
  | with_reducible exact rv_inT
  | with_reducible exact rv_inL
  | with_reducible exact rv_ninL
  | with_reducible exact rv_ixT0
  | with_reducible exact rv_ixT1
  | with_reducible exact rv_ixT2
  | with_reducible exact rv_ixT3
  | with_reducible exact rv_ixL0
  | with_reducible exact rv_ixL1
  | with_reducible exact rv_ixL2))
section
variable {P : Program} {w : World} {K : PySem.W.Frag} {mg : Str → Option Value} {base : Heap}
theorem st_fldZ {B : Bs} {L : List Addr} {ctx : Ct} {ms : Ms} {D : Ends} {σ : L2.St} {G H : Hp} {wi : TI} {mm : List Int} {i v : Nat} {f : Str} (hi : EvI B L wi ctx ms (mm.map rI) ms) (nd : mm.Nodup) (hl : mm.length ≤ 1000) (hic : i < ctx.length) (S : Sx B L ctx ms σ G H)
    (k : ∀ d G' H', Same G G' → Sx B L ctx ((d, .dct (mm.map fun m => (m, rN_ 0))) :: ms) σ G' H' → sFld K (tVar v) (tC (.ref d)) f D σ H') : sFld K (tVar v) (tDc wi (gName i) tYes (tVar i) (tC (.int 0)) [i]) f D σ H := ev_dcZ hi nd hl hic S k
structure PmX where
  e : Ent
  a : Addr
  dx : Addr
noncomputable abbrev fs6 (K : Fr) (e : Ent) (d : Addr) : List (Str × Rp) := [("own_rule", rRule K e.ps e.se), ("own_marks", rInts (marks e.ls)), ("own_letters", rLet (srt e.ls)), ("own_bound", rBd (marks e.ls) (bd e)),
    ("own_shown", rPlaces e), ("own_moves", rV (.ref d))]
noncomputable abbrev fs7 (K : Fr) (e : Ent) (d : Addr) : List (Str × Rp) := [("own_rule", rRule K e.ps e.se), ("own_marks", rInts (marks e.ls)), ("own_letters", rLet (srt e.ls)), ("own_bound", rBd (marks e.ls) (bd e)),
    ("own_shown", rPlaces e), ("own_moves", rV (.ref d)), ("own_near", rNear (marks e.ls) (bd e) e.se)]
noncomputable abbrev pF8 (K : Fr) (e : Ent) (d : Addr) : List (Str × Rp) := pgG K e [] (rV (.ref d))
theorem srt_let {ls : List Arr} (h : (ls.map (·.m)).Nodup) : (marks ls).map (fun m => (m, rArr (arrOf ls m))) = (srt ls).map fun a => (a.m, rArr a) := by
  rw [srt_marks h, List.map_map]
  refine List.map_congr_left fun m hm => ?_
  show _ = ((arrOf ls m).m, _)
  rw [(arrOf_in (mem_marks.mp hm)).2]
theorem not_self {e : Ent} (h : okLs e.ls) {m : Int} (hm : m ∈ marks e.ls) : m ∉ bd e m := fun q => by
  obtain ⟨a1, a2⟩ := arrOf_in (mem_marks.mp hm)
  have up := (h.ok _ a1).up
  have := (List.pairwise_append.mp up).2.2 m (kept_mem q) (arrOf e.ls m).m (List.mem_singleton.mpr rfl)
  omega
noncomputable abbrev spPageI (K : Fr) : Sp := spE (β := Addr) (fun (x : PmX) L => okE x.e ∧ L = []) (fun x => [rV (.ref x.a), rRule K x.e.ps x.e.se, rLet x.e.ls]) (fun x => [(x.a, .ins (He.ga K "Page") x.dx [])])
  (fun x d => [(x.a, .ins (He.ga K "Page") x.dx (pF8 K x.e d)), (d, .dct ((marks x.e.ls).map fun m => (m, rN_ 0)))]) (fun _ _ => rN)
theorem sc_Page_init : FnScope ["self", "rule", "letters", "mark"] ["self", "rule", "letters"] (defScope s_Page_init) := ⟨rfl, rfl, rfl, by decide +kernel, rfl, by decide +kernel, by decide +kernel⟩
theorem mk_Page_init_ (T : Tx P w K mg base) : Mkr P w K mg base 3 "Page" (He.ga K "Page") (spPageI K) := by
  have c_cut := cl_cut T
  have m_Page_place_of := mt_Page_place_of T
  have m_Page_neighbours := mt_Page_neighbours T
  have m_Page_joined := mt_Page_joined T
  obtain ⟨fd, F⟩ := T.def_ di_Page_init
  refine ⟨T.glo fi_glo_Page, _, T.mkr fi_mkr_Page, fnE_of F sc_Page_init (fun _ => rfl) (fun _ _ _ _ _ _ us hl => match us, hl with | [_, _, _], _ => rfl) fun cdv A outer s H0 vs Q E hr z L G hp k S => ?_⟩
  obtain ⟨e, a, dx⟩ := z
  obtain ⟨ho, rfl⟩ := hp
  have hnd := ho.ls.nd
  have h12 : (marks e.ls).length ≤ 12 := okLs_small ho.ls
  have hl12 : e.ls.length ≤ 12 := ho.ls.len
  have hlt := marks_lt hnd
  have bl : ∀ m ∈ marks e.ls, (bd e m).length ≤ 9 := fun m hm => bd_len ho.ls m hm
  refine ⟨_, (pss_cons (ps_fldK (K := K) (pv 0) (pv 1) rfl)
    (pss_cons (ps_fldK (K := K) (pv 0) (pe_tupleK (K := K) (by rfl) (T.free fi_free_tuple) (pe_callB (id := "sorted") (cr_sortedK (K := K)) (by rfl) (T.free fi_free_sorted) (by decide +kernel) (pa_cons (pe_callTy (T := "list") (call_list_dK rfl) (by rfl) (T.free fi_free_list) (by decide +kernel) (pa_cons (pv 2) pa_nil)) pa_nil))) rfl)
    (pss_cons (ps_fldK (K := K) (pv 0) (pe_dc (own := [("mark", 3)]) rfl sc_Page_init.nd (pi_tupK (K := K) (pe_fldK (K := K) (pv 0) rfl)) (blkOk_by (own := [("mark", 3)]) (N := ["self", "rule", "letters", "mark"]) (sc := defScope s_Page_init) (by decide +kernel)) (fun _ _ _ _ _ => (pg_name (i := 3) sc_Page_init.nd rfl (Or.inl rfl) (Or.inr rfl))) (fun _ _ _ _ _ => pts_nil) (fun _ _ _ _ _ => (pv 3)) (fun _ _ _ _ _ => (pe_dget (hu_of hr) (pv 2) (pv 3) (fun _ _ => rfl)))) rfl)
    (pss_cons (ps_fldK (K := K) (pv 0) (pe_dc (own := [("mark", 3)]) rfl sc_Page_init.nd (pi_tupK (K := K) (pe_fldK (K := K) (pv 0) rfl)) (blkOk_by (own := [("mark", 3)]) (N := ["self", "rule", "letters", "mark"]) (sc := defScope s_Page_init) (by decide +kernel)) (fun _ _ _ _ _ => (pg_name (i := 3) sc_Page_init.nd rfl (Or.inl rfl) (Or.inr rfl))) (fun _ _ _ _ _ => pts_nil) (fun _ _ _ _ _ => (pv 3)) (fun _ _ _ _ _ => (pe_callR c_cut hr (by decide) (by rfl) (pa_cons (pe_fldK (K := K) (pv 1) rfl) (pa_cons (pe_ix (ix_tupK (K := K)) (pe_dget (hu_of hr) (pv 2) (pv 3) (fun _ _ => rfl)) pe_int (fun _ _ => rfl)) pa_nil))))) rfl)
    (pss_cons (ps_fldK (K := K) (pv 0) (pe_dc (own := [("mark", 3)]) rfl sc_Page_init.nd (pi_tupK (K := K) (pe_fldK (K := K) (pv 0) rfl)) (blkOk_by (own := [("mark", 3)]) (N := ["self", "rule", "letters", "mark"]) (sc := defScope s_Page_init) (by decide +kernel)) (fun _ _ _ _ _ => (pg_name (i := 3) sc_Page_init.nd rfl (Or.inl rfl) (Or.inr rfl))) (fun _ _ _ _ _ => pts_nil) (fun _ _ _ _ _ => (pv 3)) (fun _ _ _ _ _ => (pe_mt (T.cls fi_cls_Page) m_Page_place_of hr (by decide) (pv 0) (pa_cons (pv 3) pa_nil)))) rfl)
    (pss_cons (ps_fldK (K := K) (pv 0) (pe_dc (own := [("mark", 3)]) rfl sc_Page_init.nd (pi_tupK (K := K) (pe_fldK (K := K) (pv 0) rfl)) (blkOk_by (own := [("mark", 3)]) (N := ["self", "rule", "letters", "mark"]) (sc := defScope s_Page_init) (by decide +kernel)) (fun _ _ _ _ _ => (pg_name (i := 3) sc_Page_init.nd rfl (Or.inl rfl) (Or.inr rfl))) (fun _ _ _ _ _ => pts_nil) (fun _ _ _ _ _ => (pv 3)) (fun _ _ _ _ _ => pe_int)) rfl)
    (pss_cons (ps_fldK (K := K) (pv 0) (pe_mt0 (T.cls fi_cls_Page) m_Page_neighbours hr (by decide) (pv 0)) rfl)
    (pss_one (ps_fldK (K := K) (pv 0) (pe_mt0 (T.cls fi_cls_Page) m_Page_joined hr (by decide) (pv 0)) rfl))))))))), ?_⟩
  try dsimp only [L2.cxOf]
  refine st_fldP 0 (r := rRule K e.ps e.se) (ev_var rfl) (ev_var rfl) rfl (cls_Page T) (na_rule T) (by simp) rfl S fun G1 H1 e1 S1 => ?_
  dsimp only
  refine st_fldP 0 (r := rInts (marks e.ls)) ?_ (ev_var rfl) rfl (cls_Page T) (na_pmarks T) (by simp) rfl S1 fun G2 H2 e2 S2 => ?_
  · refine ev_tupOfL (rs := (marks e.ls).map rI) (ev_imp (r := rSorted_ (e.ls.map (·.m))) (ev_cb (ea_cons (ev_is (r2 := rLst ((e.ls.map (·.m)).map rI)) (ev_cb (ea_cons (ev_var rfl) ea_nil) rc_listD) (by rw [List.map_map, List.map_map]; rfl)) ea_nil) (rc_sortedL (ns := e.ls.map (·.m)))) fun v G ⟨ns, ⟨p1, p2⟩, hv⟩ => ?_)
    rw [marks_uniq p1 p2] at hv
    exact hv
  dsimp only
  have lk : ∀ m ∈ marks e.ls, lookI m (e.ls.map fun a => (a.m, rArr a)) = some (rArr (arrOf e.ls m)) := fun m hm => by
    obtain ⟨a1, a2⟩ := arrOf_in (mem_marks.mp hm)
    have z := lookA (f := rArr) hnd a1
    rw [a2] at z
    exact z
  have nd' : ((marks e.ls).map fun m => m).Nodup := by rw [List.map_id']; exact marks_nd hnd
  refine st_fldP 0 (r := rLet (srt e.ls)) ?_ (ev_var rfl) rfl (cls_Page T) (na_letters T) (by simp) rfl S2 fun G3 H3 e3 S3 => ?_
  · refine ev_is (ev_dcA (marks e.ls) (f := rI) (x := fun m => m) (e := fun m => rArr (arrOf e.ls m)) (ei_tup (ev_fldM (j := 0) (ev_var rfl) rfl (cls_Page T) (na_pmarks T) rfl)) (by omega) nd' (fun m hm => gm_name (by simp)) (fun m hm B => ev_var rfl) fun m hm B => ev_dget (ev_var rfl) (ev_var rfl) (lk m hm)) ?_
    exact congrArg rDct (srt_let hnd)
  dsimp only
  refine st_fldP 0 (r := rBd (marks e.ls) (bd e)) ?_ (ev_var rfl) rfl (cls_Page T) (na_bound T) (by simp) rfl S3 fun G4 H4 e4 S4 => ?_
  · refine ev_dcA (marks e.ls) (f := rI) (x := fun m => m) (e := fun m => rInts (bd e m)) (ei_tup (ev_fldM (j := 0) (ev_var rfl) rfl (cls_Page T) (na_pmarks T) rfl)) (by omega) nd' (fun m hm => gm_name (by simp)) (fun m hm B => ev_var rfl) fun m hm B => ?_
    obtain ⟨a1, a2⟩ := arrOf_in (mem_marks.mp hm)
    exact ev_call (e.ps, (arrOf e.ls m).c) (ea_cons (ev_fld (ev_var rfl) (cls_Rule T) (na_cutter T) rfl) (ea_cons (ev_op (ev_dget (ev_var rfl) (ev_var rfl) (lk m hm)) ev_c rv_ixT2) ea_nil)) ⟨ho.ps, Nat.le_trans (ho.ls.ok _ a1).cl (by omega)⟩
  dsimp only
  refine st_fldP 0 (r := rPlaces e) ?_ (ev_var rfl) rfl (cls_Page T) (na_shown T) (by simp) rfl S4 fun G5 H5 e5 S5 => ?_
  · exact ev_dcA (marks e.ls) (f := rI) (x := fun m => m) (e := fun m => rOpt (plc e m)) (ei_tup (ev_fldM (j := 0) (ev_var rfl) rfl (cls_Page T) (na_pmarks T) rfl)) (by omega) nd' (fun m hm => gm_name (by simp)) (fun m hm B => ev_var rfl) fun m hm B => ev_mtM0 (rs := fun x : Ent × Int × Addr × Addr => rOpt (plc x.1 x.2.1)) (fs := pF4 K e) (dx := dx) (ls := [rI m]) (e, m, a, dx) 0 0 (ev_var rfl) rfl rfl (ea_cons (ev_var rfl) ea_nil) rfl rfl ⟨ho.ls, hm⟩ rfl rfl
  dsimp only
  refine st_fldZ (mm := marks e.ls) (i := 3) (ei_tup (ev_fldM (j := 0) (ev_var rfl) rfl (cls_Page T) (na_pmarks T) rfl)) (marks_nd hnd) (by omega) (by simp) S5 fun d G6 H6 e6 S6 => ?_
  refine st_fldP 1 (r := rV (.ref d)) (te := tC (.ref d)) ev_c (ev_var rfl) rfl (cls_Page T) (na_moves T) (by simp) rfl S6 fun G7 H7 e7 S7 => ?_
  dsimp only
  have nk : (⟨a, dx, fs6 K e d, marks e.ls, bd e, e.se, e.ps⟩ : NeX).ok K := ⟨hlt, by show (marks e.ls).length ≤ 100; omega, fun m hm => Nat.le_trans (bl m hm) (by omega), fun m hm => not_self ho.ls hm, rfl, rfl, rfl, rfl⟩
  refine st_fldP 1 (r := rNear (marks e.ls) (bd e) e.se) (ev_mtM0 (rs := fun x : NeX => rNear x.mm x.b x.se) (fs := fs6 K e d) (dx := dx) (ls := []) (⟨a, dx, fs6 K e d, marks e.ls, bd e, e.se, e.ps⟩ : NeX) 1 1 (ev_var rfl) rfl rfl ea_nil rfl rfl ⟨nk, rfl⟩ rfl rfl) (ev_var rfl) rfl (cls_Page T) (na_near T) (by simp) rfl S7 fun G8 H8 e8 S8 => ?_
  dsimp only
  have gk : (⟨a, dx, fs7 K e d, marks e.ls, bd e, e.se⟩ : PgX).ok := ⟨hlt, by show (marks e.ls).length ≤ 100; omega, rfl, rfl, rfl⟩
  refine st_fldP 1 (r := rTup ((groups e).map rInts)) (ev_mtM0 (rs := fun x : PgX => rTup ((grp x.mm x.ad x.mm []).map rInts)) (fs := fs7 K e d) (dx := dx) (ls := []) (⟨a, dx, fs7 K e d, marks e.ls, bd e, e.se⟩ : PgX) 1 1 (ev_var rfl) rfl rfl ea_nil rfl rfl ⟨gk, rfl⟩ rfl rfl) (ev_var rfl) rfl (cls_Page T) (na_groups T) (by simp) rfl S8 fun G9 H9 e9 S9 => ?_
  have S10 := S9.tell (j := 1) (fs' := pF8 K e d) rfl fun gs h => match h with
    | .cons h1 (.cons h2 (.cons h3 (.cons h4 (.cons h5 (.cons h6 (.cons h7 (.cons h8 .nil))))))) => .cons h1 (.cons h2 (.cons h3 (.cons h4 (.cons h5 (.cons h6 (.cons ⟨h7.1, trivial⟩ (.cons h8 .nil)))))))
  have pm : [(a, Cell.ins (He.ga K "Page") dx (pF8 K e d)), (d, Cell.dct ((marks e.ls).map fun m => (m, rN_ 0)))].Perm [(d, Cell.dct ((marks e.ls).map fun m => (m, rN_ 0))), (a, .ins (He.ga K "Page") dx (pF8 K e d))] := List.Perm.swap _ _ _
  exact k d _ _ G9 H9 (S10.cells (fun p hp => pm.subset hp) ((pm.map (·.1)).nodup_iff.mpr S10.mem.nd)) .non rfl
end
end K62
set_option maxHeartbeats 4000000
/-! K62Dw: a turn of an inbox. -/
namespace K62
open PySem PySem.Spec PyProof.Rows L2
local macro_rules | `(tactic| walk_at "ev") => `(tactic| repeat' (first
  | ((with_reducible apply ev_var); exact rfl)
  | with_reducible exact ev_c
  | with_reducible exact ea_nil
  | with_reducible exact et_yes
  | with_reducible exact rv_I0
  | with_reducible exact eo_none
  | with_reducible apply eo_some
  | with_reducible apply ea_cons
  | with_reducible apply ev_op
  | (with_reducible apply ev_andV <;> try intro _)
  | (with_reducible apply ev_orV <;> try intro _)
  | with_reducible apply ev_notV
  | with_reducible apply ev_tup
  | with_reducible apply ev_lst
  | with_reducible apply ev_neg
  | with_reducible apply ev_cb
  | with_reducible apply et_B
  | with_reducible apply et_val
  | with_reducible apply et_not
  | (with_reducible apply et_and <;> try intro _)
  | (with_reducible apply et_or <;> try intro _)
  | with_reducible apply ev_call
  | with_reducible apply ev_fld
  | with_reducible exact cls_Cutter (by assumption)
  | with_reducible exact cls_Rule (by assumption)
  | with_reducible exact cls_Page (by assumption)
  | with_reducible exact cls_Inbox (by assumption)
  | with_reducible exact na_parts (by assumption)
  | with_reducible exact na_tables (by assumption)
  | with_reducible exact na_whole (by assumption)
  | with_reducible exact na_cutter (by assumption)
  | with_reducible exact na_sees (by assumption)
  | with_reducible exact na_rule (by assumption)
  | with_reducible exact na_pmarks (by assumption)
  | with_reducible exact na_letters (by assumption)
  | with_reducible exact na_bound (by assumption)
  | with_reducible exact na_shown (by assumption)
  | with_reducible exact na_moves (by assumption)
  | with_reducible exact na_near (by assumption)
  | with_reducible exact na_groups (by assumption)
  | with_reducible exact na_pages (by assumption)
  | with_reducible exact na_version (by assumption)
  | with_reducible exact na_marks (by assumption)
  | with_reducible exact isi_str (by assumption)
  | with_reducible exact isi_int (by assumption)
  | with_reducible exact isi_intbool (by assumption)
  | with_reducible exact isi_bool (by assumption)
  | with_reducible exact isi_tup (by assumption)
  | with_reducible exact isi_Cutter (by assumption)
  | with_reducible exact isi_Rule (by assumption)
  | with_reducible exact isi_Inbox (by assumption)
  | with_reducible exact rc_lenT
  | with_reducible exact rc_lenL
  | with_reducible apply rc_lenS
  | with_reducible exact rc_abs
  | with_reducible exact rc_max
  | with_reducible exact rc_min
  | with_reducible exact rc_int
  | with_reducible exact rc_intB
  | with_reducible exact rv_inSign
  | with_reducible exact rv_inT
  | with_reducible exact rv_inL
  | with_reducible exact rv_ninL
  | with_reducible exact rv_ixT0
  | with_reducible exact rv_ixT1
  | with_reducible exact rv_ixT2
  | with_reducible exact rv_ixT3
  | with_reducible exact rv_ixL0
  | with_reducible exact rv_ixL1
  | with_reducible exact rv_ixL2))
section
variable {B : Bs} {L : List Addr} {ctx : Ct} {ms ms1 : Ms} {tl : TA} {K : PySem.W.Frag} {D : Ends} {σ : L2.St} {G H : Hp} {E : XK} {Q : VK}
/-- the cells mi at the head -/
theorem pr_useN {ar : List Rp} {mi mo : Ms} {res : Rp} {vs : List V} (S : Sx B L ctx (mi ++ ms) σ G H) (hal : Al ar vs G) (fr : ∀ p ∈ mo, p.1 ∈ mi.map (·.1)) (k : ∀ v G' H', Same G G' → Sx B L ctx (mo ++ ms) σ G' H' → res.ok v G' → Q v H') : Pr L ar mi mo res vs H Q := by
  obtain ⟨G0, x, h1, m, f⟩ := pr_useE (β := Unit) (mo := fun _ => mo) (res := fun _ => res) S hal fun _ => k
  exact ⟨G0, x, h1, m, fun v G' H' s y z => f () v G' H' s y z fun p hp => .inl (fr p hp)⟩
theorem ev_mkPage {e : Ent} (h : EvA B [] tl ctx ms [rRule K e.ps e.se, rLet e.ls] ms1) (ho : okE e) (S : Sx B [] ctx ms σ G H) (k : ∀ y dx d G' H', Same G G' → Sx B [] ctx ((y, .ins (He.ga K "Page") dx (pF8 K e d)) :: (d, .dct ((marks e.ls).map fun m => (m, rN_ 0))) :: ms1) σ G' H' → Q (.ref y) H') :
    StX.tMakeR (He.ga K "Page") (spPageI K) E tl σ H Q := h σ G H S _ fun vs G1 H1 e1 S1 hal => fun y dx hy hdx hne => by
  obtain ⟨e2, S2⟩ := S1.new (o := .own y) hdx
  have hy1 : upd H1 dx (.own y) y = none := by rw [upd_ne (Ne.symm hne)]; exact hy
  have S3 := S2.newM (c := .ins (He.ga K "Page") dx []) hy1 (.ins (gs := []) upd_same .nil)
  refine ⟨⟨e, y, dx⟩, [], ⟨ho, rfl⟩, ?_⟩
  exact pr_useE (mi := [(y, .ins (He.ga K "Page") dx [])]) S3 (.cons rfl (hal.mono e2)) fun d v G' H' e3 S4 hv => ⟨hv, k y dx d G' H' (e1.trans (e2.trans e3)) S4⟩
end
theorem pages_turn {K : Fr} {h : List Ent} {n : Nat} {e : Ent} (hn : n < h.length) : (pagesOf K h).take (n + 1) ++ [rPage K (h.take (n + 1) ++ [e])] = pagesOf K (h.take (n + 1) ++ [e]) := by
  have l1 : (h.take (n + 1)).length = n + 1 := by rw [List.length_take]; omega
  unfold pagesOf
  rw [List.length_append, l1, List.length_singleton, List.range_succ, List.map_append]
  congr 1
  · rw [← List.map_take, List.take_range, Nat.min_eq_left (by omega)]
    refine List.map_congr_left fun i hi => ?_
    have hi := List.mem_range.mp hi
    rw [List.take_append_of_le_length (by omega), List.take_take, Nat.min_eq_left (by omega)]
  · show _ = [rPage K ((h.take (n + 1) ++ [e]).take (n + 1 + 1))]
    have ee : (h.take (n + 1) ++ [e]).take (n + 1 + 1) = h.take (n + 1) ++ [e] := List.take_of_length_le (by rw [List.length_append, l1]; simp)
    rw [ee]
theorem hist_at {h : List Ent} {n : Nat} (hn : n < h.length) : h.take (n + 1) = h.take n ++ [atE h n] := by
  rw [List.take_add_one]
  have e : atE h n = h[n] := by simp [atE, List.getD, List.getElem?_eq_getElem hn]
  rw [List.getElem?_eq_getElem hn, e]
  rfl
theorem okH.take {h : List Ent} (o : okH h) {n : Nat} (hn : n < h.length) : okH (h.take (n + 1)) := by
  refine ⟨fun z => ?_, fun e he => o.ok e (List.mem_of_mem_take he), List.Pairwise.sublist (List.take_sublist _ _) o.gr, Nat.le_trans (by rw [List.length_take]; omega) o.len⟩
  rw [hist_at hn] at z
  exact absurd z (by simp)
section
variable {P : Program} {w : World} {K : PySem.W.Frag} {mg : Str → Option Value} {base : Heap}
structure TuX where
  x : Ib
  e : Ent
abbrev TuX.h' (y : TuX) : List Ent := y.x.h.take (y.x.now + 1) ++ [y.e]
structure TuX.ok (y : TuX) : Prop where
  x : y.x.ok
  e : okE y.e
  le : ∀ m ∈ marks y.x.e.ls, m ∈ marks y.e.ls
noncomputable abbrev spTurn (K : Fr) : Sp := spF (fun (y : TuX) L => y.ok ∧ L = []) (fun y => [rV (.ref y.x.a), rRule K y.e.ps y.e.se, rLet y.e.ls]) (fun y => y.x.c K) (fun y => [(y.x.a, cInb K y.x.dx y.h' (y.x.now + 1))]) (fun _ => rN)
theorem st_mkPage {B : Bs} {ctx : Ct} {ms ms1 : Ms} {tl : TA} {D : Ends} {σ : L2.St} {G H : Hp} {E : XK} {e : Ent} {i : Nat} (h : EvA B [] tl ctx ms [rRule K e.ps e.se, rLet e.ls] ms1) (ho : okE e) (S : Sx B [] ctx ms σ G H) (k : ∀ y dx d σ' G' H', Same G G' → Sx B [] (ctx.set i (some (rV (.ref y)))) ((y, .ins (He.ga K "Page") dx (pF8 K e d)) :: (d, .dct ((marks e.ls).map fun m => (m, rN_ 0))) :: ms1) σ' G' H' → D.nx σ' H') :
    tAsg (StX.tMakeR (He.ga K "Page") (spPageI K) E tl) (gName i) D σ H := ev_mkPage h ho S fun y dx d G' H' e' S' => k y dx d _ G' H' e' (S'.set rfl)
/-- page.behind(p) -/
theorem st_behind {B : Bs} {ctx : Ct} {ms : Ms} {te : TE} {D : Ends} {σ : L2.St} {G H : Hp} {E : XK} {e f : Ent} {h : List Ent} {y dx d : Addr} {i : Nat} (hc : ctx[i]? = some (some (rV (.ref y)))) (hg : okH (h ++ [f])) (he : okLs e.ls) (le : ∀ m ∈ marks f.ls, m ∈ marks e.ls)
    (ha : EvM B [] te ctx ((y, .ins (He.ga K "Page") dx (pF8 K e d)) :: (d, .dct ((marks e.ls).map fun m => (m, rN_ 0))) :: ms) (rPage K (h ++ [f])) ((y, .ins (He.ga K "Page") dx (pF8 K e d)) :: (d, .dct ((marks e.ls).map fun m => (m, rN_ 0))) :: ms))
    (S : Sx B [] ctx ((y, .ins (He.ga K "Page") dx (pF8 K e d)) :: (d, .dct ((marks e.ls).map fun m => (m, rN_ 0))) :: ms) σ G H) (k : ∀ G' H', Same G G' → Sx B [] ctx ((y, .ins (He.ga K "Page") dx (pF8 K e d)) :: (d, .dct (rMoves (h ++ [f] ++ [e]) e)) :: ms) σ G' H' → D.nx σ H') :
    tDrop (tMethR (He.ga K "Page") "behind" (spBehind K) E (tVar i) (tCons te tNil)) D σ H := by
  unfold tDrop tMethR
  refine ev_var hc σ G H S _ fun v G1 H1 e1 S1 hv => ?_
  have c : CAt y G1 H1 (.ins (He.ga K "Page") dx (pF8 K e d)) := S1.mem.at_ _ List.mem_cons_self
  cases c with
  | @ins _ _ _ gs hb hal =>
    refine ⟨y, dx, gs, hv, hb, hal.look0 rfl, ha σ G1 H1 S1 _ fun v2 G2 H2 e2 S2 h2 => ⟨⟨y, dx, d, pF8 K e d, h, f, e⟩, [], ⟨⟨hg, he, le, rfl, rfl⟩, rfl⟩, ?_⟩⟩
    exact pr_useN (mi := [(y, .ins (He.ga K "Page") dx (pF8 K e d)), (d, .dct ((marks e.ls).map fun m => (m, rN_ 0)))]) S2 (.cons hv (.cons h2 .nil)) (fun p hp => by
      have hp : p = (y, Cell.ins (He.ga K "Page") dx (pF8 K e d)) ∨ p = (d, Cell.dct (rMoves (h ++ [f] ++ [e]) e)) := by simpa using hp
      rcases hp with q | q <;> subst q <;> simp) fun v3 G3 H3 e3 S3 h3 => k G3 H3 (e1.trans (e2.trans e3)) S3
/-- both become pure -/
theorem Sx.page {B : Bs} {ctx : Ct} {ms : Ms} {σ : L2.St} {G H : Hp} {e : Ent} {h : List Ent} {y dx d : Addr} {i : Nat} {mv : List (Int × Rp)} (S : Sx B [] ctx ((y, .ins (He.ga K "Page") dx (pF8 K e d)) :: (d, .dct mv) :: ms) σ G H) (hmv : mv = rMoves (h ++ [e]) e) (hy : B.H y = none) (hd : B.H d = none) (hc : ctx[i]? = some (some (rV (.ref y)))) :
    ∃ G', Same G G' ∧ Sx B [] (ctx.set i (some (rPage K (h ++ [e])))) ms σ G' H := by
  subst hmv
  have pm : ((d, Cell.dct (rMoves (h ++ [e]) e)) :: (y, .ins (He.ga K "Page") dx (pF8 K e d)) :: ms).Perm ((y, .ins (He.ga K "Page") dx (pF8 K e d)) :: (d, .dct (rMoves (h ++ [e]) e)) :: ms) := List.Perm.swap _ _ _
  have S1 := S.cells (fun p hp => pm.subset hp) ((pm.map (·.1)).nodup_iff.mpr S.mem.nd)
  obtain ⟨G1, e1, S2, h2⟩ := S1.freeze hd
  have S3 := S2.tell (j := 0) (fs' := pageF K (h ++ [e])) rfl fun gs q => by
    unfold pageF
    rw [lastE_snoc]
    match q with
    | .cons h1 (.cons h2' (.cons h3 (.cons h4 (.cons h5 (.cons h6 (.cons h7 (.cons h8 .nil))))))) =>
      exact .cons h1 (.cons h2' (.cons h3 (.cons h4 (.cons h5 (.cons ⟨h6.1, by have z : _ = V.ref d := h6.2; rw [z]; exact h2⟩ (.cons h7 (.cons h8 .nil)))))))
  obtain ⟨G2, e2, S4⟩ := S3.freezeS hy hc
  exact ⟨G2, e1.trans e2, S4⟩
theorem sc_Inbox_turn : FnScope ["self", "rule", "letters", "page"] ["self", "rule", "letters"] (defScope s_Inbox_turn) := ⟨rfl, rfl, rfl, by decide +kernel, rfl, by decide +kernel, by decide +kernel⟩
theorem mt_Inbox_turn (T : Tx P w K mg base) : Mt P w K mg base 5 (He.ga K "Inbox") "turn" (spTurn K) := by
  obtain ⟨fd, F⟩ := T.def_ di_Inbox_turn
  refine ⟨_, T.meth fi_meth_Inbox_turn, fnR_of F sc_Inbox_turn (fun _ => rfl) (fun _ _ _ _ _ _ us hl => match us, hl with | [_, _, _], _ => rfl) fun cdv A outer s H0 vs Q E hr z L G hp k S => ?_⟩
  have k_Page := mk_Page_init_ T
  have m_Page_behind := mt_Page_behind T
  have m_Inbox_page := mt_Inbox_page T
  have m_Inbox_go_to := mt_Inbox_go_to T
  obtain ⟨x, e⟩ := z
  obtain ⟨⟨hx, he, hle⟩, rfl⟩ := hp
  dsimp only at hx he hle
  have hv : x.now < x.h.length := hx.2
  have ht := hist_at hv
  refine ⟨_, (pss_cons (ps_set (i := 3) sc_Inbox_turn.nd rfl (Or.inl rfl) (pe_mk k_Page hr (by decide) (by rfl) (pa_cons (pv 1) (pa_cons (pv 2) pa_nil))))
    (pss_cons (ps_expr (pe_mt (T.cls fi_cls_Page) m_Page_behind hr (by decide) (pv 3) (pa_cons (pe_mt0 (T.cls fi_cls_Inbox) m_Inbox_page hr (by decide) (pv 0)) pa_nil)))
    (pss_cons (ps_fldK (K := K) (pv 0) (pe_tup (pa_starK (K := K) (pe_slice (sl_tupK (K := K)) (pe_fldK (K := K) (pv 0) rfl) po_none (po_some (pe_op op_add (pe_fldK (K := K) (pv 0) rfl) pe_int))) (pa_cons (pv 3) pa_nil))) rfl)
    (pss_one (ps_expr (pe_mt (T.cls fi_cls_Inbox) m_Inbox_go_to hr (by decide) (pv 0) (pa_cons (pe_op op_add (pe_fldK (K := K) (pv 0) rfl) pe_int) pa_nil))))))), ?_⟩
  try dsimp only [L2.cxOf]
  refine st_mkPage (e := e) (i := 3) (ea_cons (ev_var rfl) (ea_cons (ev_var rfl) ea_nil)) he S fun y pdx d σ1 G1 H1 e1 S1 => ?_
  dsimp only
  have fy := S1.own _ List.mem_cons_self
  have fd := S1.own _ (List.mem_cons_of_mem _ List.mem_cons_self)
  have nd := S1.mem.nd
  simp only [List.map_cons, List.map_nil, List.nodup_cons, List.mem_cons, List.not_mem_nil, or_false, not_or] at nd fy fd
  refine st_behind (h := x.h.take x.now) (f := x.e) (i := 3) rfl (by rw [← ht]; exact hx.1.take hv) he.ls hle ?_ S1 fun G2 H2 e2 S2 => ?_
  · rw [← ht]
    refine ev_is (ev_page x (i := 0) (j := 2) rfl rfl hv) (rPage_eq hv).symm
  dsimp only
  obtain ⟨G3, e3, S3⟩ := S2.page (i := 3) rfl (fy.resolve_left nd.1.2) (fd.resolve_left nd.2.1) rfl
  rw [← ht] at S3
  refine st_fldM (j := 0) (r := rTup (pagesOf K (x.h.take (x.now + 1) ++ [e]))) (ms1 := x.c K) (ms2 := x.c K) ?_ (ev_var rfl) rfl (cls_Inbox T) (na_pages T) (by show 3 < 100; decide) S3 fun G4 H4 e4 S4 => ?_
  · rw [← pages_turn hv]
    have lp : (pagesOf K x.h).length = x.h.length := by unfold pagesOf; rw [List.length_map, List.length_range]
    have l40 := hx.1.len
    refine ev_tup (ea_starT (ev_is (ev_slT (ev_fldM (ev_var rfl) (j := 0) rfl (cls_Inbox T) (na_pages T) rfl) eo_none (eo_some (ev_op (ev_fldM (ev_var rfl) (j := 0) rfl (cls_Inbox T) (na_version T) rfl) ev_c rv_I0))) ?_) (ea_cons (ev_var rfl) ea_nil)) (by rw [List.length_append, List.length_take, List.length_singleton]; omega)
    exact congrArg rTup (cutRs_to (k := x.now + 1) (by show x.now + 1 ≤ (pagesOf K x.h).length; rw [lp]; omega))
  dsimp only
  have eq1 : putR "own_pages" (rTup (pagesOf K (x.h.take (x.now + 1) ++ [e]))) (inbF K x.h x.now) = ibF (pagesOf K (x.h.take (x.now + 1) ++ [e])) x.now (rInts (marks x.e.ls)) := rfl
  have S4 : Sx _ [] _ [(x.a, .ins (He.ga K "Inbox") x.dx (ibF (pagesOf K (x.h.take (x.now + 1) ++ [e])) x.now (rInts (marks x.e.ls))))] _ G4 H4 := S4
  have hl' : x.now + 1 < (x.h.take (x.now + 1) ++ [e]).length := by rw [List.length_append, List.length_take]; simp; omega
  refine st_drop (ev_mtM (fs' := inbF K (x.h.take (x.now + 1) ++ [e]) (x.now + 1)) (rs := fun _ => rN) (ls := [rN_ (x.now + 1)]) (x.h.take (x.now + 1) ++ [e], x.now, rInts (marks x.e.ls), x.now + 1, x.a, x.dx) 0 0 (ev_var rfl) rfl rfl (ea_cons (ev_is (ev_op (ev_fldM (ev_var rfl) (j := 0) rfl (cls_Inbox T) (na_version T) rfl) ev_c rv_I0) rfl) ea_nil) rfl rfl hl' rfl rfl) S4 fun G5 H5 e5 S5 => ?_
  exact k _ _ G5 H5 S5 .non rfl
end
end K62
set_option maxHeartbeats 4000000
/-! K62Fd: letters in another order; letters added. -/
namespace K62
open PySem PySem.Spec PyProof.Rows L2
theorem marks_perm_eq {ls ls' : List Arr} (p : ls.Perm ls') : marks ls = marks ls' := marks_uniq ((marks_perm ls).trans (p.map (·.m))) (marks_le ls)
theorem arrOf_perm {ls ls' : List Arr} (p : ls.Perm ls') (h : (ls.map (·.m)).Nodup) : arrOf ls = arrOf ls' := by
  funext x
  have h' : (ls'.map (·.m)).Nodup := (p.map (·.m)).nodup_iff.mp h
  by_cases hx : x ∈ ls.map (·.m)
  · obtain ⟨a1, a2⟩ := arrOf_in hx
    have z := arrOf_mem h' (p.subset a1)
    rw [a2] at z
    exact z.symm
  · have hx' : x ∉ ls'.map (·.m) := fun q => hx ((p.map (·.m)).symm.subset q)
    have none_ : ∀ {l : List Arr}, x ∉ l.map (·.m) → l.find? (fun a => decide (a.m = x)) = none := fun {l} q => List.find?_eq_none.mpr fun a ha e => q (List.mem_map.mpr ⟨a, ha, by simpa using e⟩)
    unfold arrOf
    rw [none_ hx, none_ hx']
theorem srt_perm_eq {ls ls' : List Arr} (p : ls.Perm ls') (h : (ls.map (·.m)).Nodup) : srt ls = srt ls' := by
  rw [srt_marks h, srt_marks ((p.map (·.m)).nodup_iff.mp h), marks_perm_eq p, arrOf_perm p h]
section
variable {e e' : Ent}
structure EqE (e e' : Ent) : Prop where
  ps : e.ps = e'.ps
  se : e.se = e'.se
  p : e.ls.Perm e'.ls
  nd : (e.ls.map (·.m)).Nodup
theorem EqE.marks (q : EqE e e') : K62.marks e.ls = K62.marks e'.ls := marks_perm_eq q.p
theorem EqE.bd (q : EqE e e') : K62.bd e = K62.bd e' := by
  funext x
  unfold K62.bd
  rw [q.ps, arrOf_perm q.p q.nd]
theorem EqE.plc (q : EqE e e') : K62.plc e = K62.plc e' := by
  funext x
  unfold K62.plc
  rw [q.bd, q.marks]
theorem EqE.groups (q : EqE e e') : K62.groups e = K62.groups e' := by
  unfold K62.groups
  rw [q.bd, q.marks, q.se]
theorem EqE.mvs (q : EqE e e') (h : List Ent) (x : Int) : K62.mvs (h ++ [e]) x = K62.mvs (h ++ [e']) x := by
  unfold K62.mvs
  rw [plcs_snoc, plcs_snoc, q.marks, q.plc]
theorem EqE.page {K : Fr} (q : EqE e e') (h : List Ent) : rPage K (h ++ [e]) = rPage K (h ++ [e']) := by
  show rIns _ (pageF K (h ++ [e])) = rIns _ (pageF K (h ++ [e']))
  unfold pageF
  rw [lastE_snoc, lastE_snoc]
  dsimp only
  rw [q.marks, q.ps, q.se, srt_perm_eq q.p q.nd, q.bd, q.plc, q.groups]
  simp only [q.mvs h]
theorem EqE.inb {K : Fr} (q : EqE e e') (h : List Ent) (n : Nat) : inbF K (h ++ [e]) n = inbF K (h ++ [e']) n := by
  unfold inbF
  have e1 : ((List.range (h ++ [e]).length).map fun i => rPage K ((h ++ [e]).take (i + 1))) = (List.range (h ++ [e']).length).map fun i => rPage K ((h ++ [e']).take (i + 1)) := by
    rw [List.length_append, List.length_append, List.length_singleton, List.length_singleton]
    refine List.map_congr_left fun i hi => ?_
    have hi := List.mem_range.mp hi
    by_cases l : i + 1 ≤ h.length
    · rw [List.take_append_of_le_length l, List.take_append_of_le_length l]
    · rw [List.take_of_length_le (by rw [List.length_append, List.length_singleton]; omega), List.take_of_length_le (by rw [List.length_append, List.length_singleton]; omega)]
      exact q.page h
  rw [e1]
  have e2 : K62.marks ((h ++ [e]).getD n default).ls = K62.marks ((h ++ [e']).getD n default).ls := by
    simp only [List.getD]
    by_cases l : n < h.length
    · rw [List.getElem?_append_left l, List.getElem?_append_left l]
    · rw [List.getElem?_append_right (by omega), List.getElem?_append_right (by omega)]
      by_cases z : n - h.length = 0
      · rw [z]; exact q.marks
      · rw [List.getElem?_eq_none (by simp; omega), List.getElem?_eq_none (by simp; omega)]
  rw [e2]
end
/-! ### letters added -/
def addA (ls : List Arr) (a : Arr) : List Arr := if a.m ∈ ls.map (·.m) then ls else ls ++ [a]
def addAs (ls As : List Arr) : List Arr := As.foldl addA ls
theorem addA_nd {ls : List Arr} {a : Arr} (h : (ls.map (·.m)).Nodup) : ((addA ls a).map (·.m)).Nodup := by
  unfold addA
  split
  · exact h
  · rename_i n
    rw [List.map_append]
    exact List.nodup_append.mpr ⟨h, by simp, fun x hx y hy e => n (by have : y = a.m := by simpa using hy
                                                                      rw [← this, ← e]; exact hx)⟩
theorem addAs_nd : ∀ {As ls : List Arr}, (ls.map (·.m)).Nodup → ((addAs ls As).map (·.m)).Nodup
  | [], _, h => h
  | _ :: As, _, h => addAs_nd (As := As) (addA_nd h)
theorem addA_perm {ls ls' : List Arr} {a : Arr} (p : ls.Perm ls') : (addA ls a).Perm (addA ls' a) := by
  unfold addA
  by_cases h : a.m ∈ ls.map (·.m)
  · rw [if_pos h, if_pos ((p.map (·.m)).subset h)]; exact p
  · rw [if_neg h, if_neg fun q => h ((p.map (·.m)).symm.subset q)]; exact p.append_right _
theorem addAs_perm : ∀ {As ls ls' : List Arr}, ls.Perm ls' → (addAs ls As).Perm (addAs ls' As)
  | [], _, _, p => p
  | _ :: As, _, _, p => addAs_perm (As := As) (addA_perm p)
theorem addA_sub {ls : List Arr} {a x : Arr} (h : x ∈ addA ls a) : x ∈ ls ∨ x = a := by
  unfold addA at h
  split at h
  · exact .inl h
  · rcases List.mem_append.mp h with q | q
    · exact .inl q
    · exact .inr (List.mem_singleton.mp q)
theorem addAs_sub : ∀ {As ls : List Arr} {x : Arr}, x ∈ addAs ls As → x ∈ ls ∨ x ∈ As
  | [], _, _, h => .inl h
  | a :: As, ls, x, h => by
    rcases addAs_sub (As := As) h with q | q
    · rcases addA_sub q with q | q
      · exact .inl q
      · exact .inr (by rw [q]; exact List.mem_cons_self)
    · exact .inr (List.mem_cons_of_mem _ q)
theorem addA_pre {ls : List Arr} {a : Arr} : ∃ t, addA ls a = ls ++ t := by
  unfold addA
  split
  · exact ⟨[], (List.append_nil _).symm⟩
  · exact ⟨[a], rfl⟩
theorem addAs_pre : ∀ {As ls : List Arr}, ∃ t, addAs ls As = ls ++ t
  | [], ls => ⟨[], (List.append_nil _).symm⟩
  | a :: As, ls => by
    obtain ⟨t, h1⟩ := addA_pre (ls := ls) (a := a)
    obtain ⟨u, h2⟩ := addAs_pre (As := As) (ls := addA ls a)
    exact ⟨t ++ u, by show addAs (addA ls a) As = _; rw [h2, h1, List.append_assoc]⟩
theorem addAs_le {As ls : List Arr} : ls.length ≤ (addAs ls As).length := by
  obtain ⟨t, h⟩ := addAs_pre (As := As) (ls := ls)
  rw [h, List.length_append]; omega
/-- nothing new -/
theorem addAs_same {As ls : List Arr} (h : (addAs ls As).length ≤ ls.length) : addAs ls As = ls := by
  obtain ⟨t, e⟩ := addAs_pre (As := As) (ls := ls)
  rw [e, List.length_append] at h
  have : t = [] := List.length_eq_zero_iff.mp (by omega)
  rw [e, this, List.append_nil]
end K62
set_option maxHeartbeats 4000000
/-! K62Dx: arrivals received. -/
namespace K62
open PySem PySem.Spec PyProof.Rows L2
local macro_rules | `(tactic| walk_at "ev") => `(tactic| repeat' (first
  | ((with_reducible apply ev_var); exact rfl)
  | with_reducible exact ev_c
  | with_reducible exact ea_nil
  | with_reducible exact et_yes
  | with_reducible exact rv_I0
  | with_reducible exact eo_none
  | with_reducible apply eo_some
  | with_reducible apply ea_cons
  | with_reducible apply ev_op
  | (with_reducible apply ev_andV <;> try intro _)
  | (with_reducible apply ev_orV <;> try intro _)
  | with_reducible apply ev_notV
  | with_reducible apply ev_tup
  | with_reducible apply ev_lst
  | with_reducible apply ev_neg
  | with_reducible apply ev_cb
  | with_reducible apply et_B
  | with_reducible apply et_val
  | with_reducible apply et_not
  | (with_reducible apply et_and <;> try intro _)
  | (with_reducible apply et_or <;> try intro _)
  | with_reducible apply ev_call
  | with_reducible apply ev_fld
  | with_reducible exact cls_Cutter (by assumption)
  | with_reducible exact cls_Rule (by assumption)
  | with_reducible exact cls_Page (by assumption)
  | with_reducible exact cls_Inbox (by assumption)
  | with_reducible exact na_parts (by assumption)
  | with_reducible exact na_tables (by assumption)
  | with_reducible exact na_whole (by assumption)
  | with_reducible exact na_cutter (by assumption)
  | with_reducible exact na_sees (by assumption)
  | with_reducible exact na_rule (by assumption)
  | with_reducible exact na_pmarks (by assumption)
  | with_reducible exact na_letters (by assumption)
  | with_reducible exact na_bound (by assumption)
  | with_reducible exact na_shown (by assumption)
  | with_reducible exact na_moves (by assumption)
  | with_reducible exact na_near (by assumption)
  | with_reducible exact na_groups (by assumption)
  | with_reducible exact na_pages (by assumption)
  | with_reducible exact na_version (by assumption)
  | with_reducible exact na_marks (by assumption)
  | with_reducible exact isi_str (by assumption)
  | with_reducible exact isi_int (by assumption)
  | with_reducible exact isi_intbool (by assumption)
  | with_reducible exact isi_bool (by assumption)
  | with_reducible exact isi_tup (by assumption)
  | with_reducible exact isi_Cutter (by assumption)
  | with_reducible exact isi_Rule (by assumption)
  | with_reducible exact isi_Inbox (by assumption)
  | with_reducible exact rc_lenT
  | with_reducible exact rc_lenL
  | with_reducible apply rc_lenS
  | with_reducible exact rc_abs
  | with_reducible exact rc_max
  | with_reducible exact rc_min
  | with_reducible exact rc_int
  | with_reducible exact rc_intB
  | with_reducible exact rv_inSign
  | with_reducible exact rv_inT
  | with_reducible exact rv_inL
  | with_reducible exact rv_ninL
  | with_reducible exact rv_ixT0
  | with_reducible exact rv_ixT1
  | with_reducible exact rv_ixT2
  | with_reducible exact rv_ixT3
  | with_reducible exact rv_ixL0
  | with_reducible exact rv_ixL1
  | with_reducible exact rv_ixL2))
abbrev ltD (ls : List Arr) : List (Int × Rp) := ls.map fun a => (a.m, rArr a)
section
variable {B : Bs} {L : List Addr} {ctx : Ct} {ms ms1 : Ms} {td tk tv : TE} {tl : TA} {K : PySem.W.Frag} {D : Ends} {σ : L2.St} {G H : Hp}
/-- x = dict(d), a cell -/
theorem st_dictM {i : Nat} {ks : List (Int × Rp)} (h : EvA B L tl ctx ms [rDct ks] ms) (S : Sx B L ctx ms σ G H) (k : ∀ d σ' G' H', Same G G' → Sx B L (ctx.set i (some (rV (.ref d)))) ((d, .dct ks) :: ms) σ' G' H' → D.nx σ' H') : tAsg (tCB rDictC tl) (gName i) D σ H :=
  h σ G H S _ fun vs G1 H1 e1 S1 hal => by
    obtain ⟨v, rfl, a, kvs, ev, ha, hk⟩ := al1 hal
    exact ⟨a, kvs, by rw [ev], S1.ex.dct ha, fun p hp => k p _ G1 _ e1 ((S1.newM hp (.dct upd_same hk)).set rfl)⟩
theorem ev_setdA {ls : List Arr} {a : Arr} {d : Addr} {j : Nat} (hd : EvM B L td ctx ms (rV (.ref d)) ms) (hk : EvM B L tk ctx ms (rI a.m) ms) (hv : EvM B L tv ctx ms (rArr a) ms) (hj : ms[j]? = some (d, .dct (ltD ls))) (ag : ∀ b ∈ ls, b.m = a.m → b = a) (nd : (ls.map (·.m)).Nodup) (hl : ls.length < 100000) :
    EvM B L (tDSetd td tk tv) ctx ms (rArr a) (ms.set j (d, .dct (ltD (addA ls a)))) := fun σ G H S Q k => hd σ G H S _ fun x G1 H1 e1 S1 hx => by
  have hx : x = .ref d := hx
  subst hx
  have c1 : CAt d G1 H1 (.dct (ltD ls)) := S1.mem.at_ _ (List.mem_of_getElem? hj)
  have isd : ∃ kvs, H1 d = some (.dK kvs) := by cases c1 with | @dct _ kvs ha _ => exact ⟨kvs, ha⟩
  refine ⟨d, rfl, ?_, hk σ G1 H1 S1 _ fun y G2 H2 e2 S2 hy => hv σ G2 H2 S2 _ fun z G3 H3 e3 S3 hz => ?_⟩
  · obtain ⟨kvs, h⟩ := isd; exact .inl ⟨kvs, .inl h⟩
  have hy : y = .int a.m := hy
  subst hy
  have c3 : CAt d G3 H3 (.dct (ltD ls)) := S3.mem.at_ _ (List.mem_of_getElem? hj)
  cases c3 with
  | @dct _ kvs ha hal =>
    have lk := hal.look (k := a.m)
    refine ⟨kvs, Sum.inl a.m, ha, rfl, line_lt (by rw [← Paired.length hal, List.length_map]; exact hl), fun v hv => ?_, fun hn => ?_⟩
    · by_cases hm : a.m ∈ ls.map (·.m)
      · obtain ⟨b, hb, e⟩ := List.mem_map.mp hm
        have := ag b hb e
        subst this
        rw [lookA (f := rArr) nd hb] at lk
        obtain ⟨v', h1, h2⟩ := lk
        rw [h1] at hv
        cases hv
        refine k v G3 H3 (e1.trans (e2.trans e3)) ?_ h2
        have : addA ls b = ls := by unfold addA; rw [if_pos hm]
        rw [this, set_same hj]
        exact S3
      · have : lookI a.m (ltD ls) = none := by
          have z := look_map (g := fun a : Arr => a.m) (f := rArr) (k := a.m) (l := ls)
          rw [decide_eq_false hm] at z
          exact Option.not_isSome_iff_eq_none.mp (by rw [z]; simp)
        rw [this] at lk
        rw [lk] at hv
        cases hv
    · have hm : a.m ∉ ls.map (·.m) := fun hm => by
        obtain ⟨b, hb, e⟩ := List.mem_map.mp hm
        have z := lookA (f := rArr) nd hb
        rw [e] at z
        rw [z] at lk
        obtain ⟨v', h1, _⟩ := lk
        rw [h1] at hn
        cases hn
      have S4 := S3.put (a := d) (o := .dK (putK kvs (Sum.inl a.m) z)) (c' := .dct (putI a.m (rArr a) (ltD ls))) hj (.dct upd_same (hal.put hz))
      rw [putI_new (fun p hp q => by
        obtain ⟨b, h1, h2⟩ := List.mem_map.mp hp
        subst h2
        exact hm (List.mem_map.mpr ⟨b, h1, q⟩))] at S4
      refine k z G3 _ (e1.trans (e2.trans e3)) ?_ hz
      have : ltD (addA ls a) = ltD ls ++ [(a.m, rArr a)] := by unfold addA ltD; rw [if_neg hm, List.map_append]; rfl
      rw [this]
      exact S4
end
theorem addAs_len : ∀ {As ls : List Arr}, (addAs ls As).length ≤ ls.length + As.length
  | [], _ => Nat.le_refl _
  | a :: As, ls => by
    have h1 := addAs_len (As := As) (ls := addA ls a)
    have h2 : (addA ls a).length ≤ ls.length + 1 := by
      unfold addA
      split
      · omega
      · rw [List.length_append]; simp
    show (addAs (addA ls a) As).length ≤ _
    rw [List.length_cons]; omega
def dArr (a : Arr) : PyData := .tuple [.int a.m, .str a.w, dNs a.c]
theorem dat_arr {K : Fr} {a : Arr} : Dat K (rArr a) (dArr a) := dat_tup (.cons dat_int (.cons dat_str (.cons dat_ints .nil)))
theorem da_str {s : Str} (h : PyData.strOk s = true) : Da 0 (.str s) := ⟨by simp only [PyData.canLay0]; exact h, by simp only [PyData.depth]; omega⟩
theorem name_ok {a : Arr} (h : okArr a) : PyData.strOk a.w = true := by
  have := h.w
  simp only [List.mem_cons, List.not_mem_nil, or_false] at this
  rcases this with e | e | e | e <;> rw [e] <;> decide +kernel
theorem da_arr {a : Arr} (h : okArr a) : Da 2 (dArr a) := da_tup fun d hd => by
  simp only [List.mem_cons, List.not_mem_nil, or_false] at hd
  rcases hd with rfl | rfl | rfl
  · exact da_int.up (by omega)
  · exact (da_str (name_ok h)).up (by omega)
  · exact da_ints
theorem eqv_arr_refl {a : Arr} : PyData.eqv (dArr a) (dArr a) = true := by
  have h := eqv_ints a.c a.c
  rw [decide_eq_true rfl] at h
  unfold dArr
  simp [PyData.eqv, PyData.eqvAll, h]
section
variable {P : Program} {w : World} {K : PySem.W.Frag} {mg : Str → Option Value} {base : Heap}
theorem ev_turn {B : Bs} {ctx : Ct} {ms : Ms} {tl : TA} {i j : Nat} (y : TuX) (hc : ctx[i]? = some (some (rV (.ref y.x.a)))) (hj : ms[j]? = some (y.x.a, cInb K y.x.dx y.x.h y.x.now)) (ha : EvA B [] tl ctx ms [rRule K y.e.ps y.e.se, rLet y.e.ls] ms) (ho : y.ok) :
    EvM B [] (tMethR (He.ga K "Inbox") "turn" (spTurn K) E0 (tVar i) tl) ctx ms rN (ms.set j (y.x.a, cInb K y.x.dx y.h' (y.x.now + 1))) :=
  ev_mtM (rs := fun _ => rN) (ls := [rRule K y.e.ps y.e.se, rLet y.e.ls]) (fs' := inbF K y.h' (y.x.now + 1)) y j j (ev_var hc) hj rfl ha hj rfl ⟨ho, rfl⟩ rfl rfl
structure RecX where
  x : Ib
  As : List Arr
abbrev RecX.ls' (y : RecX) : List Arr := addAs y.x.e.ls y.As
abbrev RecX.e' (y : RecX) : Ent := ⟨y.x.e.ps, y.x.e.se, y.ls'⟩
abbrev RecX.many (y : RecX) : Nat := y.ls'.length - y.x.e.ls.length
abbrev RecX.h' (y : RecX) : List Ent := if 0 < y.many then y.x.h.take (y.x.now + 1) ++ [y.e'] else y.x.h
abbrev RecX.n' (y : RecX) : Nat := if 0 < y.many then y.x.now + 1 else y.x.now
structure RecX.ok (y : RecX) : Prop where
  x : y.x.ok
  As : ∀ a ∈ y.As, okArr a
  ag : ∀ a ∈ y.As, ∀ b, b ∈ y.x.e.ls ∨ b ∈ y.As → b.m = a.m → b = a
  ls : okLs y.ls'
  len : y.As.length ≤ 12
noncomputable abbrev spReceive (K : Fr) : Sp := spF (fun (y : RecX) L => y.ok ∧ L = []) (fun y => [rV (.ref y.x.a)] ++ y.As.map rArr) (fun y => y.x.c K) (fun y => [(y.x.a, cInb K y.x.dx y.h' y.n')]) (fun y => rN_ y.many)
theorem sc_Inbox_receive : FnScope ["self", "arrivals", "one", "letters", "many"] ["self", "arrivals"] (defScope s_Inbox_receive) := ⟨rfl, rfl, rfl, by decide +kernel, rfl, by decide +kernel, by decide +kernel⟩
theorem fn_Inbox_receive (T : Tx P w K mg base) : FnR P w K mg base CX0 6 (He.ma K (He.ga K "Inbox") "receive") (spReceive K) := by
  have c_is_arrival := cl_is_arrival T
  have m_Inbox_page := mt_Inbox_page T
  have m_Inbox_turn := mt_Inbox_turn T
  obtain ⟨fd, F⟩ := T.def_ di_Inbox_receive
  refine fnS_of (ps := ["self"]) (pv := "arrivals") (ar := fun y : RecX => [rV (.ref y.x.a)]) (rest := fun y : RecX => y.As.map rArr) F sc_Inbox_receive (fun _ => rfl) (fun z L hp => by rw [List.length_map]; exact Nat.le_trans hp.1.len (by omega)) (fun kV doc pm an cdv ct => StX.bind_star1 (B := fun us => bindArgs (PySem.W.fnOf d_Inbox_receive.name d_Inbox_receive.qual d_Inbox_receive.params d_Inbox_receive.body d_Inbox_receive.scope .none kV doc pm an cdv ct) ⟨us, []⟩) (fun a => rfl) (fun a r rs => rfl)) fun cdv A outer s H0 vs Q E hr z L G hp k S => ?_
  obtain ⟨x, As⟩ := z
  obtain ⟨⟨hx, hAs, hag, hls, hlen⟩, rfl⟩ := hp
  dsimp only [RecX.ls'] at hx hAs hag hls hlen
  have hv : x.now < x.h.length := hx.2
  have he := hx.e
  have hnd := he.ls.nd
  have l12 := he.ls.len
  refine ⟨_, (pss_cons (ps_for PassesOwn.never rfl (pi_tupK (K := K) (pv 1)) (pg_name (i := 2) sc_Inbox_receive.nd rfl (Or.inl rfl))
      (pss_one (ps_if (pt_not (pt_val (pe_callR c_is_arrival hr (by decide) (by rfl) (pa_cons (pv 2) pa_nil)))) (pss_one ps_never) pss_nil)))
    (pss_cons (ps_set (i := 3) sc_Inbox_receive.nd rfl (Or.inl rfl) (pe_callTy (T := "dict") call_dictC (by rfl) (T.free fi_free_dict) (by decide +kernel) (pa_cons (pe_fldK (K := K) (pe_mt0 (T.cls fi_cls_Inbox) m_Inbox_page hr (by decide) (pv 0)) rfl) pa_nil)))
    (pss_cons (ps_for PassesOwn.never rfl (pi_tupK (K := K) (pv 1)) (pg_name (i := 2) sc_Inbox_receive.nd rfl (Or.inl rfl))
      (pss_one (ps_if (pt_cmpR (op_neDK (K := K) hr.units) (pe_dsetd (pv 3) (pe_ix (ix_tupK (K := K)) (pv 2) pe_int (fun _ _ => rfl)) (pv 2) ⟨by rfl, by rfl, by rfl, by rfl⟩) (pv 2) (nomark _)) (pss_one ps_never) pss_nil)))
    (pss_cons (ps_set (i := 4) sc_Inbox_receive.nd rfl (Or.inl rfl) (pe_op op_sub (pe_callB (id := "len") call_lenD (by rfl) (T.free fi_free_len) (by decide +kernel) (pa_cons (pv 3) pa_nil)) (pe_callB (id := "len") call_lenD (by rfl) (T.free fi_free_len) (by decide +kernel) (pa_cons (pe_fldK (K := K) (pe_mt0 (T.cls fi_cls_Inbox) m_Inbox_page hr (by decide) (pv 0)) rfl) pa_nil))))
    (pss_cons (ps_if (pt_cmpR op_gt (pv 4) pe_int (nomark _)) (pss_one (ps_expr (pe_mt (T.cls fi_cls_Inbox) m_Inbox_turn hr (by decide) (pv 0) (pa_cons (pe_fldK (K := K) (pe_mt0 (T.cls fi_cls_Inbox) m_Inbox_page hr (by decide) (pv 0)) rfl) (pa_cons (pv 3) pa_nil))))) pss_nil)
    (pss_one (ps_ret (pv 4)))))))), ?_⟩
  try dsimp only [L2.cxOf]
  refine st_for (ι := Unit) (ei_tup (ev_var rfl)) S (fun _ _ => True) (fun _ => [some (rV (.ref x.a)), some (rTup (As.map rArr)), none, none, none]) (fun _ => x.c K) () trivial (fun B σ G H S => S) (fun B1 G1 H1 i r u σ1 G2 H2 e1 hr0 _ e2 hl un sm S1 => ?_) (fun u σ1 G1 H1 _ e1 S1 => ?_)
  · rw [List.getElem?_map] at hr0
    cases hq : As[i]? with
    | none => rw [hq] at hr0; cases hr0
    | some a =>
      rw [hq] at hr0
      cases hr0
      have ha := hAs a (List.mem_of_getElem? hq)
      refine ⟨_, [2], gm_name (by simp), fun σ2 G3 H3 e3 S2 => ?_⟩
      refine st_ifFP (et_b (et_not (et_B (ev_call a (ea_cons (ev_var rfl) ea_nil) ha))) rfl) S2 fun G4 H4 e4 S3 => ?_
      exact ⟨(), G4, trivial, S3.weak (by repeat' constructor)⟩
  dsimp only
  refine st_dictM (i := 3) (ks := ltD (srt x.e.ls)) (ea_cons (ev_fld (ev_page x (i := 0) (j := 0) rfl rfl hv) (cls_Page T) (na_letters T) rfl) ea_nil) S1 fun d σ2 G2 H2 e2 S2 => ?_
  dsimp only
  have snd : ((srt x.e.ls).map (·.m)).Nodup := marks_nd hnd
  have sl : (srt x.e.ls).length = x.e.ls.length := (srt_perm _).length_eq
  refine st_for (ι := Nat) (ei_tup (ev_var rfl)) S2 (fun i j => j = i) (fun _ => [some (rV (.ref x.a)), some (rTup (As.map rArr)), none, some (rV (.ref d)), none]) (fun i => [(d, .dct (ltD (addAs (srt x.e.ls) (As.take i)))), (x.a, cInb K x.dx x.h x.now)]) 0 rfl (fun B σ G H S => S) (fun B1 G3 H3 i r j σ3 G4 H4 e3 hr0 hj e4 hl un sm S3 => ?_) (fun j σ3 G3 H3 hj e3 S3 => ?_)
  · subst hj
    rw [List.getElem?_map] at hr0
    cases hq : As[j]? with
    | none => rw [hq] at hr0; cases hr0
    | some a =>
      rw [hq] at hr0
      cases hr0
      have hin := List.mem_of_getElem? hq
      have ha := hAs a hin
      have st := addAs_pre (As := As.take j) (ls := srt x.e.ls)
      have hlen2 : (addAs (srt x.e.ls) (As.take j)).length < 100000 := by
        have := addAs_len (As := As.take j) (ls := srt x.e.ls)
        rw [List.length_take] at this
        omega
      refine ⟨_, [2], gm_name (by simp), fun σ4 G5 H5 e5 S4 => ?_⟩
      refine st_ifF (ms1 := [(d, .dct (ltD (addA (addAs (srt x.e.ls) (As.take j)) a))), (x.a, cInb K x.dx x.h x.now)]) (et_b (et_val (ev_op (ev_setdA (j := 0) (ls := addAs (srt x.e.ls) (As.take j)) (a := a) (ev_var rfl) (ev_op (ev_is (ev_var rfl) (show rArr a = rTup [rI a.m, rS a.w, rInts a.c] from rfl)) ev_c rv_ixT0) (ev_var rfl) rfl (fun b hb e => ?_) (addAs_nd snd) hlen2) (ev_var rfl) (rv_neD dat_arr dat_arr ((da_arr ha).shaped (by omega)) ((da_arr ha).shaped (by omega))))) (by rw [eqv_arr_refl]; rfl)) S4 fun G6 H6 e6 S5 => ?_
      · refine hag a hin b ?_ e
        rcases addAs_sub hb with q | q
        · exact .inl ((srt_perm _).subset q)
        · exact .inr (List.mem_of_mem_take q)
      · refine ⟨j + 1, G6, rfl, ?_⟩
        have : addAs (srt x.e.ls) (As.take (j + 1)) = addA (addAs (srt x.e.ls) (As.take j)) a := by
          rw [take_at hq]; unfold addAs; rw [List.foldl_append]; rfl
        rw [this]
        exact S5.weak (by repeat' constructor)
  · subst hj
    rw [List.length_map, List.take_length] at S3
    have pm := addAs_perm (As := As) (srt_perm x.e.ls)
    have pl := pm.length_eq
    have le := addAs_le (As := As) (ls := x.e.ls)
    dsimp only
    refine st_setP (i := 4) (rN_ ((addAs x.e.ls As).length - x.e.ls.length)) (ms := [(d, .dct (ltD (addAs (srt x.e.ls) As))), (x.a, cInb K x.dx x.h x.now)]) ?_ S3 fun σ4 G4 H4 e4 S4 => ?_
    · refine ev_is (ev_op (ev_cb (ea_cons (ev_var rfl) ea_nil) (rc_lenDM (j := 0) rfl)) (ev_cb (ea_cons (ev_fld (ev_page x (i := 0) (j := 1) rfl rfl hv) (cls_Page T) (na_letters T) rfl) ea_nil) rc_lenD) rv_I0) ?_
      rw [List.length_map, List.length_map]
      refine congrArg (fun z => rV (.int z)) ?_
      show ((addAs (srt x.e.ls) As).length : Int) - ((srt x.e.ls).length : Int) = _
      omega
    dsimp only
    have nd := S4.mem.nd
    have nda : d ∉ (x.c K).map (·.1) := fun hm => by
      have : d = x.a := by simpa using hm
      subst this
      simp at nd
    obtain ⟨G5, e5, S5⟩ := S4.freezeS (i := 3) ((S4.own _ List.mem_cons_self).resolve_left nda) rfl
    have eqe : EqE ⟨x.e.ps, x.e.se, addAs (srt x.e.ls) As⟩ ⟨x.e.ps, x.e.se, addAs x.e.ls As⟩ := ⟨rfl, rfl, pm, addAs_nd snd⟩
    refine st_ifP (decide (((addAs x.e.ls As).length - x.e.ls.length : Nat) > (0 : Int))) (et_val (ev_op (ev_var rfl) ev_c rv_I0)) S5 fun G6 H6 e6 S6 => ⟨fun hb => ?_, fun hb => ?_⟩
    · have hgt : 0 < (addAs x.e.ls As).length - x.e.ls.length := by have := of_decide_eq_true hb; omega
      have hok2 : okLs (addAs (srt x.e.ls) As) := ⟨addAs_nd snd, fun a ha => hls.ok a (pm.subset ha), by rw [pl]; exact hls.len⟩
      refine st_drop (ev_turn (⟨x, ⟨x.e.ps, x.e.se, addAs (srt x.e.ls) As⟩⟩ : TuX) (i := 0) (j := 0) rfl rfl (ea_cons (ev_fld (ev_page x (i := 0) (j := 0) rfl rfl hv) (cls_Page T) (na_rule T) rfl) (ea_cons (ev_var rfl) ea_nil)) ⟨hx, ⟨he.ps, hok2⟩, fun m hm => ?_⟩) S6 fun G7 H7 e7 S7 => ?_
      · rw [mem_marks] at hm ⊢
        obtain ⟨b, hb1, hb2⟩ := List.mem_map.mp hm
        obtain ⟨t, ht⟩ := addAs_pre (As := As) (ls := srt x.e.ls)
        show m ∈ (addAs (srt x.e.ls) As).map (·.m)
        rw [ht]
        exact List.mem_map.mpr ⟨b, List.mem_append_left _ ((srt_perm _).symm.subset hb1), hb2⟩
      · have S7 : Sx _ _ _ [(x.a, .ins (He.ga K "Inbox") x.dx (inbF K (x.h.take (x.now + 1) ++ [⟨x.e.ps, x.e.se, addAs (srt x.e.ls) As⟩]) (x.now + 1)))] _ _ _ := S7
        rw [eqe.inb] at S7
        dsimp only
        have hh : (⟨x, As⟩ : RecX).h' = x.h.take (x.now + 1) ++ [⟨x.e.ps, x.e.se, addAs x.e.ls As⟩] := if_pos hgt
        have hn : (⟨x, As⟩ : RecX).n' = x.now + 1 := if_pos hgt
        refine st_retP (rN_ ((addAs x.e.ls As).length - x.e.ls.length)) (ev_var rfl) S7 fun v G' H' e S' hv => ?_
        rw [hh, hn] at k
        exact k _ _ G' H' S' v hv
    · have hgt : ¬ 0 < (addAs x.e.ls As).length - x.e.ls.length := by have := of_decide_eq_false hb; omega
      dsimp only [tNext]
      have hh : (⟨x, As⟩ : RecX).h' = x.h := if_neg hgt
      have hn : (⟨x, As⟩ : RecX).n' = x.now := if_neg hgt
      refine st_retP (rN_ ((addAs x.e.ls As).length - x.e.ls.length)) (ev_var rfl) S6 fun v G' H' e S' hv => ?_
      rw [hh, hn] at k
      exact k _ _ G' H' S' v hv
theorem m_Inbox_receive_ (T : Tx P w K mg base) : Mt P w K mg base 6 (He.ga K "Inbox") "receive" (spReceive K) := ⟨_, T.meth fi_meth_Inbox_receive, fn_Inbox_receive T⟩
end
end K62
set_option maxHeartbeats 4000000
/-! K62Dy: a rule used. -/
namespace K62
open PySem PySem.Spec PyProof.Rows L2
local macro_rules | `(tactic| walk_at "ev") => `(tactic| repeat' (first
  | ((with_reducible apply ev_var); exact rfl)
  | with_reducible exact ev_c
  | with_reducible exact ea_nil
  | with_reducible exact et_yes
  | with_reducible exact rv_I0
  | with_reducible exact eo_none
  | with_reducible apply eo_some
  | with_reducible apply ea_cons
  | with_reducible apply ev_op
  | (with_reducible apply ev_andV <;> try intro _)
  | (with_reducible apply ev_orV <;> try intro _)
  | with_reducible apply ev_notV
  | with_reducible apply ev_tup
  | with_reducible apply ev_lst
  | with_reducible apply ev_neg
  | with_reducible apply ev_cb
  | with_reducible apply et_B
  | with_reducible apply et_val
  | with_reducible apply et_not
  | (with_reducible apply et_and <;> try intro _)
  | (with_reducible apply et_or <;> try intro _)
  | with_reducible apply ev_call
  | with_reducible apply ev_fld
  | with_reducible exact cls_Cutter (by assumption)
  | with_reducible exact cls_Rule (by assumption)
  | with_reducible exact cls_Page (by assumption)
  | with_reducible exact cls_Inbox (by assumption)
  | with_reducible exact na_parts (by assumption)
  | with_reducible exact na_tables (by assumption)
  | with_reducible exact na_whole (by assumption)
  | with_reducible exact na_cutter (by assumption)
  | with_reducible exact na_sees (by assumption)
  | with_reducible exact na_rule (by assumption)
  | with_reducible exact na_pmarks (by assumption)
  | with_reducible exact na_letters (by assumption)
  | with_reducible exact na_bound (by assumption)
  | with_reducible exact na_shown (by assumption)
  | with_reducible exact na_moves (by assumption)
  | with_reducible exact na_near (by assumption)
  | with_reducible exact na_groups (by assumption)
  | with_reducible exact na_pages (by assumption)
  | with_reducible exact na_version (by assumption)
  | with_reducible exact na_marks (by assumption)
  | with_reducible exact isi_str (by assumption)
  | with_reducible exact isi_int (by assumption)
  | with_reducible exact isi_intbool (by assumption)
  | with_reducible exact isi_bool (by assumption)
  | with_reducible exact isi_tup (by assumption)
  | with_reducible exact isi_Cutter (by assumption)
  | with_reducible exact isi_Rule (by assumption)
  | with_reducible exact isi_Inbox (by assumption)
  | with_reducible exact rc_lenT
  | with_reducible exact rc_lenL
  | with_reducible apply rc_lenS
  | with_reducible exact rc_abs
  | with_reducible exact rc_max
  | with_reducible exact rc_min
  | with_reducible exact rc_int
  | with_reducible exact rc_intB
  | with_reducible exact rv_inSign
  | with_reducible exact rv_inT
  | with_reducible exact rv_inL
  | with_reducible exact rv_ninL
  | with_reducible exact rv_ixT0
  | with_reducible exact rv_ixT1
  | with_reducible exact rv_ixT2
  | with_reducible exact rv_ixT3
  | with_reducible exact rv_ixL0
  | with_reducible exact rv_ixL1
  | with_reducible exact rv_ixL2))
section
variable {P : Program} {w : World} {K : PySem.W.Frag} {mg : Str → Option Value} {base : Heap}
structure UsX where
  x : Ib
  ps : List Pt
  se : Bool
abbrev UsX.e' (y : UsX) : Ent := ⟨y.ps, y.se, y.x.e.ls⟩
abbrev UsX.eq (y : UsX) : Bool := sameR y.ps y.se y.x.e.ps y.x.e.se
abbrev UsX.h' (y : UsX) : List Ent := if y.eq then y.x.h else y.x.h.take (y.x.now + 1) ++ [y.e']
abbrev UsX.n' (y : UsX) : Nat := if y.eq then y.x.now else y.x.now + 1
noncomputable abbrev spUse (K : Fr) : Sp := spF (fun (y : UsX) L => (y.x.ok ∧ okPs y.ps) ∧ L = []) (fun y => [rV (.ref y.x.a), rRule K y.ps y.se]) (fun y => y.x.c K) (fun y => [(y.x.a, cInb K y.x.dx y.h' y.n')]) (fun y => rN_ y.n')
theorem sc_Inbox_use : FnScope ["self", "rule"] ["self", "rule"] (defScope s_Inbox_use) := ⟨rfl, rfl, rfl, by decide +kernel, rfl, by decide +kernel, by decide +kernel⟩
theorem mt_Inbox_use (T : Tx P w K mg base) : Mt P w K mg base 6 (He.ga K "Inbox") "use" (spUse K) := by
  obtain ⟨fd, F⟩ := T.def_ di_Inbox_use
  refine ⟨_, T.meth fi_meth_Inbox_use, fnR_of F sc_Inbox_use (fun _ => rfl) (fun _ _ _ _ _ _ us hl => match us, hl with | [_, _], _ => rfl) fun cdv A outer s H0 vs Q E hr z L G hp k S => ?_⟩
  have c_require_rule := cl_require_rule T
  have o_Rule_eq := ow_Rule_eq T
  have ne_Rule := ne_of_ (T.fact fi_ne_Rule)
  have mro_Rule := mro_of (T.fact fi_ins_Rule)
  have m_Inbox_page := mt_Inbox_page T
  have m_Inbox_turn := mt_Inbox_turn T
  obtain ⟨x, ps, se⟩ := z
  obtain ⟨⟨hx, hps⟩, rfl⟩ := hp
  dsimp only at hx hps
  have hv : x.now < x.h.length := hx.2
  have he := hx.e
  have hnd := he.ls.nd
  have eqe : EqE ⟨ps, se, srt x.e.ls⟩ ⟨ps, se, x.e.ls⟩ := ⟨rfl, rfl, srt_perm _, marks_nd hnd⟩
  refine ⟨_, (pss_cons (ps_expr (pe_callR c_require_rule hr (by decide) (by rfl) (pa_cons (pv 1) pa_nil)))
    (pss_cons (ps_if (pt_cmpR (op_neK (K := K) o_Rule_eq ne_Rule mro_Rule hr (by decide)) (pv 1) (pe_fldK (K := K) (pe_mt0 (T.cls fi_cls_Inbox) m_Inbox_page hr (by decide) (pv 0)) rfl) (nomark _)) (pss_one (ps_expr (pe_mt (T.cls fi_cls_Inbox) m_Inbox_turn hr (by decide) (pv 0) (pa_cons (pv 1) (pa_cons (pe_fldK (K := K) (pe_mt0 (T.cls fi_cls_Inbox) m_Inbox_page hr (by decide) (pv 0)) rfl) pa_nil))))) pss_nil)
    (pss_one (ps_ret (pe_fldK (K := K) (pv 0) rfl))))), ?_⟩
  try dsimp only [L2.cxOf]
  refine st_dropP (ev_call (ps, se) (ea_cons (ev_var rfl) ea_nil) trivial) S fun G1 H1 e1 S1 => ?_
  dsimp only
  refine st_ifP (!sameR ps se x.e.ps x.e.se) (et_val (ev_op (ev_var rfl) (ev_fld (ev_page x (i := 0) (j := 0) rfl rfl hv) (cls_Page T) (na_rule T) rfl) (rv_neO ((ps, se), (x.e.ps, x.e.se)) trivial rfl rfl (T.fact fi_first_Rule)))) S1 fun G2 H2 e2 S2 => ⟨fun hb => ?_, fun hb => ?_⟩
  · have hq : sameR ps se x.e.ps x.e.se = false := by simpa using hb
    have hok2 : okLs (srt x.e.ls) := ⟨marks_nd hnd, fun a ha => he.ls.ok a ((srt_perm _).subset ha), by rw [(srt_perm _).length_eq]; exact he.ls.len⟩
    refine st_drop (ev_turn (⟨x, ⟨ps, se, srt x.e.ls⟩⟩ : TuX) (i := 0) (j := 0) rfl rfl (ea_cons (ev_var rfl) (ea_cons (ev_fld (ev_page x (i := 0) (j := 0) rfl rfl hv) (cls_Page T) (na_letters T) rfl) ea_nil)) ⟨hx, ⟨hps, hok2⟩, fun m hm => by rw [mem_marks] at hm ⊢; exact ((srt_perm _).map (·.m)).symm.subset hm⟩) S2 fun G3 H3 e3 S3 => ?_
    have S3 : Sx _ _ _ [(x.a, .ins (He.ga K "Inbox") x.dx (inbF K (x.h.take (x.now + 1) ++ [⟨ps, se, srt x.e.ls⟩]) (x.now + 1)))] _ _ _ := S3
    rw [eqe.inb] at S3
    dsimp only
    have hh : (⟨x, ps, se⟩ : UsX).h' = x.h.take (x.now + 1) ++ [⟨ps, se, x.e.ls⟩] := if_neg (show ¬ sameR ps se x.e.ps x.e.se = true by rw [hq]; simp)
    have hn : (⟨x, ps, se⟩ : UsX).n' = x.now + 1 := if_neg (show ¬ sameR ps se x.e.ps x.e.se = true by rw [hq]; simp)
    rw [hh, hn] at k
    exact st_retP (rN_ (x.now + 1)) (ev_fldM (ev_var rfl) (j := 0) rfl (cls_Inbox T) (na_version T) rfl) S3 fun v G' H' e S' hv => k _ _ G' H' S' v hv
  · have hq : sameR ps se x.e.ps x.e.se = true := by simpa using hb
    dsimp only [tNext]
    have hh : (⟨x, ps, se⟩ : UsX).h' = x.h := if_pos hq
    have hn : (⟨x, ps, se⟩ : UsX).n' = x.now := if_pos hq
    rw [hh, hn] at k
    exact st_retP (rN_ x.now) (ev_fldM (ev_var rfl) (j := 0) rfl (cls_Inbox T) (na_version T) rfl) S2 fun v G' H' e S' hv => k _ _ G' H' S' v hv
end
end K62
set_option maxHeartbeats 4000000
/-! K62Dz: letters below a mark; the text of an inbox. -/
namespace K62
open PySem PySem.Spec PyProof.Rows L2
local macro_rules | `(tactic| walk_at "ev") => `(tactic| repeat' (first
  | ((with_reducible apply ev_var); exact rfl)
  | with_reducible exact ev_c
  | with_reducible exact ea_nil
  | with_reducible exact et_yes
  | with_reducible exact rv_I0
  | with_reducible exact eo_none
  | with_reducible apply eo_some
  | with_reducible apply ea_cons
  | with_reducible apply ev_op
  | (with_reducible apply ev_andV <;> try intro _)
  | (with_reducible apply ev_orV <;> try intro _)
  | with_reducible apply ev_notV
  | with_reducible apply ev_tup
  | with_reducible apply ev_lst
  | with_reducible apply ev_neg
  | with_reducible apply ev_cb
  | with_reducible apply et_B
  | with_reducible apply et_val
  | with_reducible apply et_not
  | (with_reducible apply et_and <;> try intro _)
  | (with_reducible apply et_or <;> try intro _)
  | with_reducible apply ev_call
  | with_reducible apply ev_fld
  | with_reducible exact cls_Cutter (by assumption)
  | with_reducible exact cls_Rule (by assumption)
  | with_reducible exact cls_Page (by assumption)
  | with_reducible exact cls_Inbox (by assumption)
  | with_reducible exact na_parts (by assumption)
  | with_reducible exact na_tables (by assumption)
  | with_reducible exact na_whole (by assumption)
  | with_reducible exact na_cutter (by assumption)
  | with_reducible exact na_sees (by assumption)
  | with_reducible exact na_rule (by assumption)
  | with_reducible exact na_pmarks (by assumption)
  | with_reducible exact na_letters (by assumption)
  | with_reducible exact na_bound (by assumption)
  | with_reducible exact na_shown (by assumption)
  | with_reducible exact na_moves (by assumption)
  | with_reducible exact na_near (by assumption)
  | with_reducible exact na_groups (by assumption)
  | with_reducible exact na_pages (by assumption)
  | with_reducible exact na_version (by assumption)
  | with_reducible exact na_marks (by assumption)
  | with_reducible exact isi_str (by assumption)
  | with_reducible exact isi_int (by assumption)
  | with_reducible exact isi_intbool (by assumption)
  | with_reducible exact isi_bool (by assumption)
  | with_reducible exact isi_tup (by assumption)
  | with_reducible exact isi_Cutter (by assumption)
  | with_reducible exact isi_Rule (by assumption)
  | with_reducible exact isi_Inbox (by assumption)
  | with_reducible exact rc_lenT
  | with_reducible exact rc_lenL
  | with_reducible apply rc_lenS
  | with_reducible exact rc_abs
  | with_reducible exact rc_max
  | with_reducible exact rc_min
  | with_reducible exact rc_int
  | with_reducible exact rc_intB
  | with_reducible exact rv_inSign
  | with_reducible exact rv_inT
  | with_reducible exact rv_inL
  | with_reducible exact rv_ninL
  | with_reducible exact rv_ixT0
  | with_reducible exact rv_ixT1
  | with_reducible exact rv_ixT2
  | with_reducible exact rv_ixT3
  | with_reducible exact rv_ixL0
  | with_reducible exact rv_ixL1
  | with_reducible exact rv_ixL2))
theorem Al.re {r : Rp} {v : V} {G : Hp} (hv : r.ok v G) : ∀ {rs : List Rp} {xs : List V} {i : Nat}, Al rs xs G → xs[i]? = some v → Al (rs.set i r) xs G
  | [], _, _, h, q => by cases h; cases q
  | a :: rs, _, 0, h, q => by
    cases h with
    | cons h t =>
      cases q
      exact .cons hv t
  | a :: rs, _, i + 1, h, q => by
    cases h with
    | cons h t => exact .cons h (Al.re hv (i := i) t (by simpa using q))
section
variable {ctx : Ct} {ms : Ms} {K : PySem.W.Frag}
/-- the page that is read, one of its dicts named -/
noncomputable abbrev rPgT (K : Fr) (x : Ib) (f : Str) (ks : List (Int × Rp)) (d : Addr) : Rp := rIns (He.ga K "Page") (putR f (rDctAt d ks) (pgF K x.e (x.h.take (x.now + 1))))
noncomputable abbrev cInbT (K : Fr) (x : Ib) (f : Str) (ks : List (Int × Rp)) (d : Addr) : Cell := .ins (He.ga K "Inbox") x.dx (ibF ((pagesOf K x.h).set x.now (rPgT K x f ks d)) x.now (rInts (marks x.e.ls)))
theorem turns_page {x : Ib} {j : Nat} {f : Str} {ks : List (Int × Rp)} (hj : ms[j]? = some (x.a, cInb K x.dx x.h x.now)) (hv : x.now < x.h.length) (hf : (pgF K x.e (x.h.take (x.now + 1))).lookup f = some (rDct ks)) :
    Turns ctx ms (fun _ => ctx) (fun d => ms.set j (x.a, cInbT K x f ks d)) := ⟨fun {B σ G H} S => by
  have c : CAt x.a G H (cInb K x.dx x.h x.now) := S.mem.at_ _ (List.mem_of_getElem? hj)
  cases c with
  | @ins _ _ _ gs ha hal =>
    obtain ⟨v, h1, t, xs, ev, ht, hxs⟩ := hal.look (f := "own_pages") (r := rTup (pagesOf K x.h)) rfl
    obtain ⟨y, hy, hr⟩ := hxs.get (pages_at hv)
    rw [rPage_eq hv] at hr
    obtain ⟨d, hd, hr'⟩ := rIns_at hf hr
    have hu : upd H x.a (.ins (He.ga K "Inbox") x.dx gs) = H := by
      funext b
      by_cases e : b = x.a
      · subst e; rw [upd_same, ha]
      · rw [upd_ne e]
    have s := S.put (o := .ins (He.ga K "Inbox") x.dx gs) (c' := cInbT K x f ks d) hj (.ins upd_same (hal.re (r' := rTup ((pagesOf K x.h).set x.now (rPgT K x f ks d))) (f := "own_pages") ⟨t, xs, ev, ht, Al.re hr' hxs hy⟩ h1))
    rw [hu] at s
    exact ⟨d, hd, s⟩⟩
/-- .. and back -/
theorem back_page {x : Ib} {j : Nat} {f : Str} {ks : List (Int × Rp)} {d : Addr} {B : Bs} {σ : L2.St} {G H : Hp} {L : List Addr} (hj : ms[j]? = some (x.a, cInb K x.dx x.h x.now)) (hv : x.now < x.h.length) (hf : (pgF K x.e (x.h.take (x.now + 1))).lookup f = some (rDct ks))
    (S : Sx B L ctx (ms.set j (x.a, cInbT K x f ks d)) σ G H) : Sx B L ctx ms σ G H := by
  have hl : j < ms.length := (List.getElem?_eq_some_iff.mp hj).1
  have s := S.tell (j := j) (fs' := inbF K x.h x.now) (List.getElem?_set_self hl) fun gs q => by
    match q with
    | .cons h1 (.cons h2 (.cons h3 .nil)) =>
      refine .cons ⟨h1.1, ?_⟩ (.cons h2 (.cons h3 .nil))
      obtain ⟨t, xs, ev, ht, hxs⟩ := h1.2
      have hlp : x.now < (pagesOf K x.h).length := by unfold pagesOf; rw [List.length_map, List.length_range]; exact hv
      obtain ⟨y, hy, hr⟩ := hxs.get (List.getElem?_set_self hlp)
      have hr2 : (rPage K (x.h.take (x.now + 1))).ok y G := by
        rw [rPage_eq hv]
        obtain ⟨a, dx, gs, e, ha, hal⟩ := hr
        exact ⟨a, dx, gs, e, ha, AlF.un hf hal⟩
      have z := Al.re hr2 hxs hy
      rw [List.set_set, set_same (pages_at hv)] at z
      exact ⟨t, xs, ev, ht, z⟩
  rw [List.set_set, set_same hj] at s
  exact s
/-- the page is read meanwhile -/
theorem ev_pageT {B : Bs} {L : List Addr} {i j : Nat} {x : Ib} {f : Str} {ks : List (Int × Rp)} {d : Addr} (hc : ctx[i]? = some (some (rV (.ref x.a)))) (hj : ms[j]? = some (x.a, cInbT K x f ks d)) (hv : x.now < x.h.length) :
    EvM B L (tMethR (He.ga K "Inbox") "page" (spInbPage K) E0 (tVar i) tNil) ctx ms (rPgT K x f ks d) ms := by
  have hlp : x.now < (pagesOf K x.h).length := by unfold pagesOf; rw [List.length_map, List.length_range]; exact hv
  exact ev_mtM0 (C := He.ga K "Inbox") (m := "page") (dx := x.dx) (a := x.a) (fs := ibF ((pagesOf K x.h).set x.now (rPgT K x f ks d)) x.now (rInts (marks x.e.ls))) (ar := fun x : IbX => [x.ar K]) (mi := fun x => x.mi K) (mo := fun x => x.mi K) (pre := fun x _ => x.pages[x.v]? = some x.r) (rs := fun x => x.r) (ls := []) (⟨(pagesOf K x.h).set x.now (rPgT K x f ks d), x.now, rInts (marks x.e.ls), rPgT K x f ks d, some (x.a, x.dx)⟩ : IbX) j j (ev_var hc) hj rfl ea_nil hj rfl (List.getElem?_set_self hlp) rfl rfl
end
theorem oV_some (o : Option Int) (i : Int) : decide (oV o = V.int i) = decide (o = some i) := oV_eq o (some i)
section
variable {P : Program} {w : World} {K : PySem.W.Frag} {mg : Str → Option Value} {base : Heap}
def belowL (e : Ent) (i : Int) : List Int := (marks e.ls).filter fun y => decide (plc e y = some i)
theorem sc_Inbox_below : FnScope ["self", "mark", "one", "place"] ["self", "mark"] (defScope s_Inbox_below) := ⟨rfl, rfl, rfl, by decide +kernel, rfl, by decide +kernel, by decide +kernel⟩
theorem mt_Inbox_below (T : Tx P w K mg base) : Mt P w K mg base 5 (He.ga K "Inbox") "below" (spR1 K (fun x i L => i ∈ marks x.e.ls ∧ L = []) (fun x i => rInts (belowL x.e i))) := by
  obtain ⟨fd, F⟩ := T.def_ di_Inbox_below
  refine ⟨_, T.meth fi_meth_Inbox_below, fnR_of F sc_Inbox_below (fun _ => rfl) (fun _ _ _ _ _ _ us hl => match us, hl with | [_, _], _ => rfl) fun cdv A outer s H0 vs Q E hr z L G hp k S => ?_⟩
  have m_Inbox_page := mt_Inbox_page T
  have m_Inbox_require_there := mt_Inbox_require_there T
  obtain ⟨x, i⟩ := z
  obtain ⟨ho, hi, rfl⟩ := hp
  have hv : x.now < x.h.length := ho.2
  have h12 : (marks x.e.ls).length ≤ 12 := okLs_small ho.e.ls
  refine ⟨_, (pss_cons (ps_expr (pe_mt (T.cls fi_cls_Inbox) m_Inbox_require_there hr (by decide) (pv 0) (pa_cons (pv 1) pa_nil)))
    (pss_one (ps_ret (pe_tupleK (K := K) (by rfl) (T.free fi_free_tuple) (pe_lock (pe_lc (own := [("one", 2), ("place", 3)]) rfl sc_Inbox_below.nd (pi_items (pe_fldK (K := K) (pe_mt0 (T.cls fi_cls_Inbox) m_Inbox_page hr (by decide) (pv 0)) rfl)) (blkOk_by (own := [("one", 2), ("place", 3)]) (N := ["self", "mark", "one", "place"]) (sc := defScope s_Inbox_below) (by decide +kernel)) (fun _ _ _ _ _ => (pg_tupK (K := K) (n := 2) rfl (pgs_cons (pg_name (i := 2) sc_Inbox_below.nd rfl (Or.inl rfl) (Or.inr rfl)) (pgs_cons (pg_name (i := 3) sc_Inbox_below.nd rfl (Or.inl rfl) (Or.inr rfl)) pgs_nil)))) (fun _ _ _ _ _ => (pts_one (pt_cmpR op_eq (pv 3) (pv 1) (nomark _)))) (fun _ _ _ _ _ => (pv 2)))))))), ?_⟩
  try dsimp only [L2.cxOf]
  refine st_dropP (ev_there x i (j := 0) rfl rfl rfl ho hi) S fun G1 H1 e1 S1 => ?_
  dsimp only
  refine st_retP (rInts (belowL x.e i)) ?_ S1 fun v G' H' e S' hv => k _ _ G' H' S' v hv
  refine ev_tupOfL (rs := (belowL x.e i).map rI) (ev_lock (turns_page (x := x) (j := 0) (f := "own_shown") (ks := (marks x.e.ls).map fun m => (m, rOpt (plc x.e m))) rfl hv rfl) (ms1' := fun d => [(x.a, cInbT K x "own_shown" ((marks x.e.ls).map fun m => (m, rOpt (plc x.e m))) d)]) (fun d B => ?_) (fun {B σ G H} d S => back_page (ms := x.c K) (x := x) (j := 0) rfl hv rfl S))
  refine ev_lc (marks x.e.ls) (f := fun m => rTup [rI m, rOpt (plc x.e m)]) (e := rI) (b := fun y => decide (plc x.e y = some i)) (ei_is (ei_items (ks := (marks x.e.ls).map fun m => (m, rOpt (plc x.e m))) (ev_fld (ev_pageT (j := 0) rfl rfl hv) (cls_Page T) (na_shown T) rfl)) (by rw [List.map_map]; rfl)) (by omega) (fun m hm => gm_tup2 (by simp) (by simp)) (fun m hm B => ?_) fun m hm hb B => ev_var rfl
  exact et_b (et_val (ev_op (ev_var rfl) (ev_var rfl) (rv_eq (oV_scal (plc x.e m) (some i))))) (oV_some _ _)
end
/-! ### the text of an inbox -/
def dig (n : Nat) : Str := toString ((n : Nat) : Int)
def shS (n g : Nat) : Str := Str.empty ++ ("inbox of " : Str) ++ dig n ++ (" letters, " : Str) ++ dig g ++ (" groups" : Str)
theorem sh_ok : ((List.range 13).all fun n => (List.range 13).all fun g => decide ((shS n g).length ≤ 100)) = true := by decide +kernel
theorem str_app (a b : Str) : (a ++ b).length = a.length + b.length := by
  show (a.cps ++ b.cps).size = _
  rw [Array.size_append]; rfl
theorem sh_len {n g : Nat} (hn : n ≤ 12) (hg : g ≤ 12) : (shS n g).length ≤ 100 := of_decide_eq_true (List.all_eq_true.mp (List.all_eq_true.mp sh_ok n (List.mem_range.mpr (by omega))) g (List.mem_range.mpr (by omega)))
theorem grp_le {mm : List Int} {ad : Int → Int → Bool} : ∀ {l kn : List Int}, (grp mm ad l kn).length ≤ l.length
  | [], _ => Nat.le_refl _
  | m :: t, kn => by
    rw [grp_step]
    split
    · exact Nat.le_trans grp_le (by rw [List.length_cons]; omega)
    · rw [List.length_cons, List.length_cons]
      exact Nat.succ_le_succ grp_le
theorem groups_le {e : Ent} (h : okLs e.ls) : (groups e).length ≤ 12 := Nat.le_trans grp_le (okLs_small h)
theorem log2_small {n : Nat} (h : n ≤ 12) : ((n : Int)).natAbs.log2 < 1920 := by
  have e : ((n : Int)).natAbs = n := by omega
  rw [e]
  have : n.log2 ≤ n := Nat.log2_le_self n
  omega
theorem ev_shS {B : Bs} {L : List Addr} {ctx : Ct} {ms : Ms} {t1 t2 : TE} {n g : Nat} (h1 : EvM B L t1 ctx ms (rN_ n) ms) (h2 : EvM B L t2 ctx ms (rN_ g) ms) (hn : n ≤ 12) (hg : g ≤ 12) :
    EvM B L (fun σ H Q => tJs [tC (.str "inbox of "), tFmt t1, tC (.str " letters, "), tFmt t2, tC (.str " groups")] Str.empty σ H fun out H1 => Q (.str out) H1) ctx ms (rS (shS n g)) ms := fun σ G H S Q k => by
  have hz := sh_len hn hg
  unfold shS at hz
  rw [str_app, str_app, str_app, str_app] at hz
  refine ⟨"inbox of ", rfl, line_of (by omega), h1 σ G H S _ fun v G1 H1 e1 S1 hv => .inr ⟨(n : Int), hv, log2_small hn, dig n, rfl, line_of (by rw [str_app]; omega), " letters, ", rfl, line_of (by rw [str_app, str_app]; omega), ?_⟩⟩
  refine h2 σ G1 H1 S1 _ fun v G2 H2 e2 S2 hv => .inr ⟨(g : Int), hv, log2_small hg, dig g, rfl, line_of (by rw [str_app, str_app, str_app]; omega), " groups", rfl, line_of (by rw [str_app, str_app, str_app, str_app]; omega), ?_⟩
  exact k _ G2 H2 (e1.trans e2) S2 rfl
section
variable {P : Program} {w : World} {K : PySem.W.Frag} {mg : Str → Option Value} {base : Heap}
theorem sc_Inbox_str : FnScope ["self"] ["self"] (defScope s_Inbox_str) := ⟨rfl, rfl, rfl, by decide +kernel, rfl, by decide +kernel, by decide +kernel⟩
theorem ow_Inbox_str (T : Tx P w K mg base) : Ow P w K mg base 2 (He.ga K "Inbox") "__str__" (spR K (fun _ L => L = []) (fun x => rS (shS x.e.ls.length (groups x.e).length))) := by
  obtain ⟨fd, F⟩ := T.def_ di_Inbox_str
  refine ⟨_, (own_of (T.fact fi_own_Inbox__str_)).1, (own_of (T.fact fi_own_Inbox__str_)).2.1, (own_of (T.fact fi_own_Inbox__str_)).2.2, fnR_of F sc_Inbox_str (fun _ => rfl) (fun _ _ _ _ _ _ us hl => match us, hl with | [_], _ => rfl) fun cdv A outer s H0 vs Q E hr x L G hp k S => ?_⟩
  have m_Inbox_page := mt_Inbox_page T
  obtain ⟨ho, rfl⟩ := hp
  refine ⟨_, (pss_one (ps_ret (pe_joined (PJ.cons pe_str (PJ.cons (pe_fmt (pe_callB (id := "len") (call_lenK (K := K)) (by rfl) (T.free fi_free_len) (by decide +kernel) (pa_cons (pe_fldK (K := K) (pe_mt0 (T.cls fi_cls_Inbox) m_Inbox_page hr (by decide) (pv 0)) rfl) pa_nil))) (PJ.cons pe_str (PJ.cons (pe_fmt (pe_callB (id := "len") (call_lenK (K := K)) (by rfl) (T.free fi_free_len) (by decide +kernel) (pa_cons (pe_fldK (K := K) (pe_mt0 (T.cls fi_cls_Inbox) m_Inbox_page hr (by decide) (pv 0)) rfl) pa_nil))) (PJ.cons pe_str PJ.nil)))))))), ?_⟩
  try dsimp only [L2.cxOf]
  refine st_retP (rS (shS x.e.ls.length (groups x.e).length)) ?_ S fun v G' H' e S' hv => k _ _ G' H' S' v hv
  refine ev_shS (ev_is (ev_cb (ea_cons (ev_fld (ev_page x (i := 0) (j := 0) rfl rfl ho.2) (cls_Page T) (na_pmarks T) rfl) ea_nil) rc_lenT) ?_) (ev_is (ev_cb (ea_cons (ev_fld (ev_page x (i := 0) (j := 0) rfl rfl ho.2) (cls_Page T) (na_groups T) rfl) ea_nil) rc_lenT) ?_) ho.e.ls.len (groups_le ho.e.ls)
  · rw [List.length_map, marks_length]
  · rw [List.length_map]
end
end K62
set_option maxHeartbeats 4000000
/-! K62Ga: inboxes compared. -/
namespace K62
open PySem PySem.Spec PyProof.Rows L2
local macro_rules | `(tactic| walk_at "ev") => `(tactic| repeat' (first
  | ((with_reducible apply ev_var); exact rfl)
  | with_reducible exact ev_c
  | with_reducible exact ea_nil
  | with_reducible exact et_yes
  | with_reducible exact rv_I0
  | with_reducible exact eo_none
  | with_reducible apply eo_some
  | with_reducible apply ea_cons
  | with_reducible apply ev_op
  | (with_reducible apply ev_andV <;> try intro _)
  | (with_reducible apply ev_orV <;> try intro _)
  | with_reducible apply ev_notV
  | with_reducible apply ev_tup
  | with_reducible apply ev_lst
  | with_reducible apply ev_neg
  | with_reducible apply ev_cb
  | with_reducible apply et_B
  | with_reducible apply et_val
  | with_reducible apply et_not
  | (with_reducible apply et_and <;> try intro _)
  | (with_reducible apply et_or <;> try intro _)
  | with_reducible apply ev_call
  | with_reducible apply ev_fld
  | with_reducible exact cls_Cutter (by assumption)
  | with_reducible exact cls_Rule (by assumption)
  | with_reducible exact cls_Page (by assumption)
  | with_reducible exact cls_Inbox (by assumption)
  | with_reducible exact na_parts (by assumption)
  | with_reducible exact na_tables (by assumption)
  | with_reducible exact na_whole (by assumption)
  | with_reducible exact na_cutter (by assumption)
  | with_reducible exact na_sees (by assumption)
  | with_reducible exact na_rule (by assumption)
  | with_reducible exact na_pmarks (by assumption)
  | with_reducible exact na_letters (by assumption)
  | with_reducible exact na_bound (by assumption)
  | with_reducible exact na_shown (by assumption)
  | with_reducible exact na_moves (by assumption)
  | with_reducible exact na_near (by assumption)
  | with_reducible exact na_groups (by assumption)
  | with_reducible exact na_pages (by assumption)
  | with_reducible exact na_version (by assumption)
  | with_reducible exact na_marks (by assumption)
  | with_reducible exact isi_str (by assumption)
  | with_reducible exact isi_int (by assumption)
  | with_reducible exact isi_intbool (by assumption)
  | with_reducible exact isi_bool (by assumption)
  | with_reducible exact isi_tup (by assumption)
  | with_reducible exact isi_Cutter (by assumption)
  | with_reducible exact isi_Rule (by assumption)
  | with_reducible exact isi_Inbox (by assumption)
  | with_reducible exact rc_lenT
  | with_reducible exact rc_lenL
  | with_reducible apply rc_lenS
  | with_reducible exact rc_abs
  | with_reducible exact rc_max
  | with_reducible exact rc_min
  | with_reducible exact rc_int
  | with_reducible exact rc_intB
  | with_reducible exact rv_inSign
  | with_reducible exact rv_inT
  | with_reducible exact rv_inL
  | with_reducible exact rv_ninL
  | with_reducible exact rv_ixT0
  | with_reducible exact rv_ixT1
  | with_reducible exact rv_ixT2
  | with_reducible exact rv_ixT3
  | with_reducible exact rv_ixL0
  | with_reducible exact rv_ixL1
  | with_reducible exact rv_ixL2))
/-! ### == of two dicts of data -/
def SameD (K : Fr) (H : Hp) (x y : V) : Prop := ∃ d, Dp K H x d ∧ Dp K H y d ∧ Da 2 d ∧ PyData.eqv d d = true
def rEqL (K : Fr) : R2 := fun x y H Q => ∃ a b ks ls, x = .ref a ∧ y = .ref b ∧ H a = some (.dK ks) ∧ H b = some (.dK ls) ∧ ks.length = ls.length ∧ (∀ p ∈ ks, ∃ u, valV ls p.1 = some u ∧ SameD K H p.2 u) ∧ Q (.bl true) H
theorem op_eqL {X : Cx} (hu : X.A.units + 64 < cLine) : OpR X (compareOp .Eq) (rEqL X.K) := by
  intro pins s σ H x y v u Q I rx ry h
  obtain ⟨a, b, ks, ls, rfl, rfl, ha, hb, hl, hp, q⟩ := h
  cases (show v = Value.ref a from rx)
  cases (show u = Value.ref b from ry)
  obtain ⟨_, ya, va, ra, da⟩ := (show ObjOk X.prog X.w H s.heap a (.dK ks) from I.hok a _ ha)
  obtain ⟨_, yb, vb, rb, db⟩ := (show ObjOk X.prog X.w H s.heap b (.dK ls) from I.hok b _ hb)
  refine PySem.W.rcP_dicts (knd := mixKind X.prog X.w) (r := true) ya yb da db (by omega) (fun _ => hits_run (F := SameD X.K H) (fun x y v u h r1 r2 => ?_) rb ra hp) _ _ ?_
  · obtain ⟨d, h1, h2, h3, h4⟩ := h
    obtain ⟨as, q1⟩ := Dp.reads I d x v h1 r1
    obtain ⟨bs, q2⟩ := Dp.reads I d y u h2 r2
    have z := SeqAt.eqAt_reads d d X.A.in1 s v u as bs q1 q2 h3.1 h3.1 (by have := h3.2; show X.A.units + 1 + min d.depth d.depth < cLine; rw [Nat.min_self]; omega)
    rw [h4] at z
    exact z.eqP
  · have e : va.length = vb.length := by rw [← ra.length, ← rb.length]; exact hl
    rw [show (va.length == vb.length && true) = true from by rw [e]; simp]
    exact ⟨.bl true, H, I, rfl, q⟩
theorem op_eqLK {X : Cx} {K : Fr} (hu : X.A.units + 64 < cLine) (hK : X.K = K := by rfl) : OpR X (compareOp .Eq) (rEqL K) := by subst hK; exact op_eqL hu
section
variable {B : Bs} {L : List Addr} {ctx : Ct} {ms ms1 ms2 : Ms} {ta : TE} {tl : TA} {K : PySem.W.Frag} {C : Addr} {fs : List (Str × Rp)} {m : Str} {E : XK} {α : Type} {pre : α → List Addr → Prop} {ar : α → List Rp} {mi mo : α → Ms} {rs : α → Rp}
theorem mem_keyK {ks : List (Int × Rp)} {xs : List (Key × V)} {G : Hp} (h : AlK ks xs G) : ∀ p ∈ xs, ∃ q ∈ ks, p.1 = Sum.inl q.1 ∧ q.2.ok p.2 G := by
  induction h with
  | nil => intro p hp; cases hp
  | @cons q p ks xs h t ih =>
    intro p' hp
    rcases List.mem_cons.mp hp with z | z
    · subst z; exact ⟨q, List.mem_cons_self, h⟩
    · obtain ⟨q', h1, h2⟩ := ih p' z
      exact ⟨q', List.mem_cons_of_mem _ h1, h2⟩
theorem rv_eqLet {ls : List Arr} (hn : (ls.map (·.m)).Nodup) (ho : ∀ a ∈ ls, okArr a) : RvM B [] (rEqL K) (rLet ls) (rLet ls) ctx ms (rB true) ms := fun σ G H x y S ⟨a, xs, ex, ha, hal⟩ ⟨b, ys, ey, hb, hbl⟩ Q k => by
  refine ⟨a, b, xs, ys, ex, ey, S.ex.dct0 ha, S.ex.dct0 hb, ?_, fun p hp => ?_, k _ G H (Same.refl G) S rfl⟩
  · rw [← Paired.length hal, ← Paired.length hbl]
  · obtain ⟨q, hq, e, hv⟩ := mem_keyK hal p hp
    obtain ⟨c, hc, e2⟩ := List.mem_map.mp hq
    subst e2
    have lk := hbl.look (k := c.m)
    rw [lookA (f := rArr) hn hc] at lk
    obtain ⟨u, h1, h2⟩ := lk
    rw [e]
    exact ⟨u, h1, dArr c, dat_arr _ _ _ _ S.ex hv, dat_arr _ _ _ _ S.ex h2, da_arr (ho c hc), eqv_arr_refl⟩
/-- a method of a pure instance, by a promise that could take cells -/
theorem ev_mtN {ls : List Rp} (x : α) (h : EvM B L ta ctx ms (rIns C fs) ms1) (hf : fs.lookup m = none) (ha : EvA B L tl ctx ms1 ls ms2) (hx : ar x = rIns C fs :: ls) (hp : pre x L) (hi : mi x = []) (ho : mo x = []) : EvM B L (tMethR C m (spF pre ar mi mo rs) E ta tl) ctx ms (rs x) ms2 := fun σ G H S Q k =>
  h σ G H S _ fun v G1 H1 e1 S1 hv => by
    obtain ⟨b, dx, gs, ev, hb, hal⟩ := id hv
    refine ⟨b, dx, gs, ev, S1.ex.ins hb, hal.look0 hf, ha σ G1 H1 S1 _ fun vs G2 H2 e2 S2 q2 => ⟨x, L, hp, ?_⟩⟩
    rw [hi, ho]
    refine pr_use0 S2 ?_ fun v G3 H3 e3 S3 q3 => k v G3 H3 (e1.trans (e2.trans e3)) S3 q3
    rw [hx]
    exact .cons ((rIns C fs).mono e2 hv) q2
theorem ev_pageP {i : Nat} {h : List Ent} {now : Nat} (hc : ctx[i]? = some (some (rInb K h now))) (hv : now < h.length) :
    EvM B L (tMethR (He.ga K "Inbox") "page" (spInbPage K) E0 (tVar i) tNil) ctx ms (rIns (He.ga K "Page") (pgF K (atE h now) (h.take (now + 1)))) ms := by
  rw [← rPage_eq hv]
  exact ev_mtN (fs := inbF K h now) (ar := fun x : IbX => [x.ar K]) (mi := fun x => x.mi K) (mo := fun x => x.mi K) (pre := fun x _ => x.pages[x.v]? = some x.r) (rs := fun x => x.r) (ls := []) (⟨pagesOf K h, now, rInts (marks (atE h now).ls), rPage K (h.take (now + 1)), none⟩ : IbX) (ev_var hc) rfl ea_nil rfl (pages_at hv) rfl rfl
end
section
variable {P : Program} {w : World} {K : PySem.W.Frag} {mg : Str → Option Value} {base : Heap}
/-- what an inbox is compared with -/
inductive EqO where
  | inb (h : List Ent) (now : Nat)
  | dct (ks : List (Int × Rp))
  | non
noncomputable def EqO.rp (K : Fr) : EqO → Rp
  | .inb h now => rInb K h now
  | .dct ks => rDct ks
  | .non => rN
def EqO.ok (x : Ib) : EqO → Prop
  | .inb h now => now < h.length ∧ (sameR x.e.ps x.e.se (atE h now).ps (atE h now).se = true → srt x.e.ls = srt (atE h now).ls)
  | .dct _ => True
  | .non => True
def EqO.ans (x : Ib) : EqO → Bool
  | .inb h now => sameR x.e.ps x.e.se (atE h now).ps (atE h now).se
  | .dct _ => false
  | .non => false
def EqO.ty (K : Fr) : EqO → Value
  | .inb _ _ => .ref (He.ga K "Inbox")
  | .dct _ => .type "dict"
  | .non => .type "NoneType"
noncomputable abbrev spInbEq (K : Fr) : Sp := spF (fun (z : Ib × EqO) L => (z.1.ok ∧ z.2.ok z.1) ∧ L = []) (fun z => [rV (.ref z.1.a), z.2.rp K]) (fun z => z.1.c K) (fun z => z.1.c K) (fun z => rB (z.2.ans z.1))
theorem sc_Inbox_eq : FnScope ["self", "other"] ["self", "other"] (defScope s_Inbox_eq) := ⟨rfl, rfl, rfl, by decide +kernel, rfl, by decide +kernel, by decide +kernel⟩
theorem ow_Inbox_eq (T : Tx P w K mg base) : Ow P w K mg base 4 (He.ga K "Inbox") "__eq__" (spInbEq K) := by
  obtain ⟨fd, F⟩ := T.def_ di_Inbox_eq
  refine ⟨_, (own_of (T.fact fi_own_Inbox__eq_)).1, (own_of (T.fact fi_own_Inbox__eq_)).2.1, (own_of (T.fact fi_own_Inbox__eq_)).2.2, fnR_of F sc_Inbox_eq (fun _ => rfl) (fun _ _ _ _ _ _ us hl => match us, hl with | [_, _], _ => rfl) fun cdv A outer s H0 vs Q E hr z L G hp k S => ?_⟩
  have m_Inbox_page := mt_Inbox_page T
  have o_Rule_eq := ow_Rule_eq T
  have ne_Rule := ne_of_ (T.fact fi_ne_Rule)
  have mro_Rule := mro_of (T.fact fi_ins_Rule)
  obtain ⟨x, o⟩ := z
  obtain ⟨⟨ho, hq⟩, rfl⟩ := hp
  dsimp only at ho hq
  have hv : x.now < x.h.length := ho.2
  refine ⟨_, (pss_cons (ps_if (PW.pt (pw_or (pt_not (pt_val (pe_callB (id := "isinstance") (call_isiK (K := K)) (by rfl) (T.free fi_free_isinstance) (by decide +kernel) (pa_cons (pv 1) (pa_cons (pe_glob (v := .ref (He.ga K "Inbox")) rfl (T.glo fi_glo_Inbox) rfl) pa_nil))))) (pw_or1 (pt_cmpR (op_neK (K := K) o_Rule_eq ne_Rule mro_Rule hr (by decide)) (pe_fldK (K := K) (pe_mt0 (T.cls fi_cls_Inbox) m_Inbox_page hr (by decide) (pv 0)) rfl) (pe_fldK (K := K) (pe_mt0 (T.cls fi_cls_Inbox) m_Inbox_page hr (by decide) (pv 1)) rfl) (nomark _))))) (pss_one (ps_ret pe_bl)) pss_nil)
    (pss_one (ps_ret (pe_cmpR (op_eqLK (K := K) hr.units) (pe_fldK (K := K) (pe_mt0 (T.cls fi_cls_Inbox) m_Inbox_page hr (by decide) (pv 0)) rfl) (pe_fldK (K := K) (pe_mt0 (T.cls fi_cls_Inbox) m_Inbox_page hr (by decide) (pv 1)) rfl) (nomark _))))), ?_⟩
  try dsimp only [L2.cxOf]
  cases o with
  | dct ks =>
    refine st_ifT (ms1 := x.c K) (et_b (b := !false || false) (et_or (et_not (et_B (ev_cb (ea_cons (ev_var rfl) (ea_cons ev_c ea_nil)) (isi_dict T)))) fun h => nomatch h) rfl) S fun G1 H1 e1 S1 => ?_
    exact st_retP (rB false) ev_c S1 fun v G' H' e S' hv => k _ _ G' H' S' v hv
  | non =>
    refine st_ifT (ms1 := x.c K) (et_b (b := !false || false) (et_or (et_not (et_B (ev_cb (ea_cons (ev_var rfl) (ea_cons ev_c ea_nil)) (isi_none T)))) fun h => nomatch h) rfl) S fun G1 H1 e1 S1 => ?_
    exact st_retP (rB false) ev_c S1 fun v G' H' e S' hv => k _ _ G' H' S' v hv
  | inb h now =>
    obtain ⟨hn, hs⟩ := hq
    refine st_ifP (!true || !sameR x.e.ps x.e.se (atE h now).ps (atE h now).se) (et_or (et_not (et_B (ev_cb (ea_cons (ev_var rfl) (ea_cons ev_c ea_nil)) (isi_Inbox T)))) fun _ => et_val (ev_op (ev_fld (ev_page x (i := 0) (j := 0) rfl rfl hv) (cls_Page T) (na_rule T) rfl) (ev_fld (ev_pageP (i := 1) rfl hn) (cls_Page T) (na_rule T) rfl) (rv_neO ((x.e.ps, x.e.se), ((atE h now).ps, (atE h now).se)) trivial rfl rfl (T.fact fi_first_Rule)))) S fun G1 H1 e1 S1 => ⟨fun hb => ?_, fun hb => ?_⟩
    · refine st_retP (rB (sameR x.e.ps x.e.se (atE h now).ps (atE h now).se)) (ev_b ev_c ?_) S1 fun v G' H' e S' hv => k _ _ G' H' S' v hv
      simpa using hb
    · have hb : sameR x.e.ps x.e.se (atE h now).ps (atE h now).se = true := by simpa using hb
      have hs := hs hb
      dsimp only [tNext]
      refine st_retP (rB (sameR x.e.ps x.e.se (atE h now).ps (atE h now).se)) (ev_b (ev_op (ev_fld (ev_page x (i := 0) (j := 0) rfl rfl hv) (cls_Page T) (na_letters T) rfl) (ev_is (ev_fld (ev_pageP (i := 1) rfl hn) (cls_Page T) (na_letters T) rfl) (congrArg rLet hs.symm)) (rv_eqLet (marks_nd ho.e.ls.nd) fun a ha => ho.e.ls.ok a ((srt_perm _).subset ha))) hb.symm) S1 fun v G' H' e S' hv => k _ _ G' H' S' v hv
/-- == and != of a cell -/
theorem ty_eqO {o : EqO} {x : Ib} {G H : Hp} {y : V} (hx : ExL [] G H) (h : (o.rp K).ok y G) : TyE H y (o.ty K) := by
  cases o with
  | inb h' now => exact ty_ins hx h
  | dct ks =>
    obtain ⟨a, xs, rfl, ha, _⟩ := h
    exact .inr ⟨xs, hx.dct ha, rfl⟩
  | non =>
    cases (show y = V.non from h)
    exact rfl
theorem first_eqO (T : Tx P w K mg base) (o : EqO) : PySem.W.notFirst K (He.ga K "Inbox") (o.ty K) = true := by
  cases o with
  | inb h' now => exact T.fact fi_first_Inbox
  | dct ks => exact T.fact fi_first_Inbox_dict
  | non => exact T.fact fi_first_Inbox_none
theorem rv_eqI (T : Tx P w K mg base) {B : Bs} {ctx : Ct} {ms : Ms} (x : Ib) (o : EqO) (j : Nat) (hj : ms[j]? = some (x.a, cInb K x.dx x.h x.now)) (ho : x.ok) (hq : o.ok x) : RvM B [] (rEqO K (He.ga K "Inbox") (spInbEq K) E0) (rV (.ref x.a)) (o.rp K) ctx ms (rB (o.ans x)) ms := fun σ G H v w S hv hw Q k => by
  have hv : v = .ref x.a := hv
  subst hv
  have c : CAt x.a G H (cInb K x.dx x.h x.now) := S.mem.at_ _ (List.mem_of_getElem? hj)
  cases c with
  | @ins _ _ _ gs ha hal =>
    refine ⟨x.a, x.dx, gs, _, rfl, ha, ty_eqO (x := x) S.ex hw, first_eqO T o, (x, o), [], ⟨⟨ho, hq⟩, rfl⟩, pr_use1 hj S (.cons rfl (.cons hw .nil)) fun z G' H' e S' hz => ?_⟩
    rw [set_same hj] at S'
    exact k z G' H' e S' hz
theorem rv_neI (T : Tx P w K mg base) {B : Bs} {ctx : Ct} {ms : Ms} (x : Ib) (o : EqO) (j : Nat) (hj : ms[j]? = some (x.a, cInb K x.dx x.h x.now)) (ho : x.ok) (hq : o.ok x) : RvM B [] (rNeO K (He.ga K "Inbox") (spInbEq K) E0) (rV (.ref x.a)) (o.rp K) ctx ms (rB (!o.ans x)) ms := fun σ G H v w S hv hw Q k => by
  have hv : v = .ref x.a := hv
  subst hv
  have c : CAt x.a G H (cInb K x.dx x.h x.now) := S.mem.at_ _ (List.mem_of_getElem? hj)
  cases c with
  | @ins _ _ _ gs ha hal =>
    refine ⟨x.a, x.dx, gs, _, rfl, ha, ty_eqO (x := x) S.ex hw, first_eqO T o, (x, o), [], ⟨⟨ho, hq⟩, rfl⟩, pr_use1 hj S (.cons rfl (.cons hw .nil)) fun z G' H' e S' hz => ?_⟩
    rw [set_same hj] at S'
    exact ⟨o.ans x, hz, k _ G' H' e S' rfl⟩
end
end K62
set_option maxHeartbeats 4000000
/-! K62Gb: an inbox made. -/
namespace K62
open PySem PySem.Spec PyProof.Rows L2
local macro_rules | `(tactic| walk_at "ev") => `(tactic| repeat' (first
  | ((with_reducible apply ev_var); exact rfl)
  | with_reducible exact ev_c
  | with_reducible exact ea_nil
  | with_reducible exact et_yes
  | with_reducible exact rv_I0
  | with_reducible exact eo_none
  | with_reducible apply eo_some
  | with_reducible apply ea_cons
  | with_reducible apply ev_op
  | (with_reducible apply ev_andV <;> try intro _)
  | (with_reducible apply ev_orV <;> try intro _)
  | with_reducible apply ev_notV
  | with_reducible apply ev_tup
  | with_reducible apply ev_lst
  | with_reducible apply ev_neg
  | with_reducible apply ev_cb
  | with_reducible apply et_B
  | with_reducible apply et_val
  | with_reducible apply et_not
  | (with_reducible apply et_and <;> try intro _)
  | (with_reducible apply et_or <;> try intro _)
  | with_reducible apply ev_call
  | with_reducible apply ev_fld
  | with_reducible exact cls_Cutter (by assumption)
  | with_reducible exact cls_Rule (by assumption)
  | with_reducible exact cls_Page (by assumption)
  | with_reducible exact cls_Inbox (by assumption)
  | with_reducible exact na_parts (by assumption)
  | with_reducible exact na_tables (by assumption)
  | with_reducible exact na_whole (by assumption)
  | with_reducible exact na_cutter (by assumption)
  | with_reducible exact na_sees (by assumption)
  | with_reducible exact na_rule (by assumption)
  | with_reducible exact na_pmarks (by assumption)
  | with_reducible exact na_letters (by assumption)
  | with_reducible exact na_bound (by assumption)
  | with_reducible exact na_shown (by assumption)
  | with_reducible exact na_moves (by assumption)
  | with_reducible exact na_near (by assumption)
  | with_reducible exact na_groups (by assumption)
  | with_reducible exact na_pages (by assumption)
  | with_reducible exact na_version (by assumption)
  | with_reducible exact na_marks (by assumption)
  | with_reducible exact isi_str (by assumption)
  | with_reducible exact isi_int (by assumption)
  | with_reducible exact isi_intbool (by assumption)
  | with_reducible exact isi_bool (by assumption)
  | with_reducible exact isi_tup (by assumption)
  | with_reducible exact isi_Cutter (by assumption)
  | with_reducible exact isi_Rule (by assumption)
  | with_reducible exact isi_Inbox (by assumption)
  | with_reducible exact rc_lenT
  | with_reducible exact rc_lenL
  | with_reducible apply rc_lenS
  | with_reducible exact rc_abs
  | with_reducible exact rc_max
  | with_reducible exact rc_min
  | with_reducible exact rc_int
  | with_reducible exact rc_intB
  | with_reducible exact rv_inSign
  | with_reducible exact rv_inT
  | with_reducible exact rv_inL
  | with_reducible exact rv_ninL
  | with_reducible exact rv_ixT0
  | with_reducible exact rv_ixT1
  | with_reducible exact rv_ixT2
  | with_reducible exact rv_ixT3
  | with_reducible exact rv_ixL0
  | with_reducible exact rv_ixL1
  | with_reducible exact rv_ixL2))
section
variable {B : Bs} {L : List Addr} {ctx : Ct} {ms ms1 ms2 : Ms} {ta te : TE} {tl : TA} {K : PySem.W.Frag} {D : Ends} {σ : L2.St} {G H : Hp} {E : XK} {Q : VK}
theorem ev_dnewP : EvM B L tDNewK ctx ms (rDct []) ms := fun σ G H S Q k => fun p hp => by
  obtain ⟨e2, S2⟩ := S.new (o := .dK []) hp
  exact k _ _ _ e2 S2 ⟨p, [], rfl, upd_same, .nil⟩
/-- the first page -/
theorem ev_page1 {e : Ent} (h : ∀ B, EvA B [] tl ctx ms [rRule K e.ps e.se, rLet e.ls] ms) (ho : okE e) (h0 : e.ls = []) : EvM B [] (StX.tMakeR (He.ga K "Page") (spPageI K) E tl) ctx ms (rPage K [e]) ms := fun σ G H S Q k => by
  have S0 := S.re
  refine ev_mkPage (h _) ho S0 fun y dx d G1 H1 e1 S1 => ?_
  have nd := S1.mem.nd
  rw [List.map_cons, List.map_cons] at nd
  obtain ⟨n1, n2⟩ := List.nodup_cons.mp nd
  obtain ⟨n3, _⟩ := List.nodup_cons.mp n2
  have fy : H y = none := (S1.own _ List.mem_cons_self).resolve_left fun m => n1 (List.mem_cons_of_mem _ m)
  have fd : H d = none := (S1.own _ (List.mem_cons_of_mem _ List.mem_cons_self)).resolve_left n3
  have mk0 : marks e.ls = [] := by rw [h0]; rfl
  have pm : ((d, Cell.dct ((marks e.ls).map fun m => (m, rN_ 0))) :: (y, .ins (He.ga K "Page") dx (pF8 K e d)) :: ms).Perm ((y, .ins (He.ga K "Page") dx (pF8 K e d)) :: (d, .dct ((marks e.ls).map fun m => (m, rN_ 0))) :: ms) := List.Perm.swap _ _ _
  have S2 := S1.cells (fun p hp => pm.subset hp) ((pm.map (·.1)).nodup_iff.mpr S1.mem.nd)
  obtain ⟨G2, e2, S3, h2⟩ := S2.freeze fd
  have h2 : (rDct (rMoves ([] ++ [e]) e)).ok (.ref d) G2 := by
    have z : (marks e.ls).map (fun m => (m, rN_ 0)) = rMoves ([] ++ [e]) e := by unfold rMoves; rw [mk0]; rfl
    rw [← z]; exact h2
  have S4 := S3.tell (j := 0) (fs' := pageF K ([] ++ [e])) rfl fun gs q => by
    unfold pageF
    rw [lastE_snoc]
    match q with
    | .cons h1 (.cons h2' (.cons h3 (.cons h4 (.cons h5 (.cons h6 (.cons h7 (.cons h8 .nil))))))) =>
      exact .cons h1 (.cons h2' (.cons h3 (.cons h4 (.cons h5 (.cons ⟨h6.1, by have z : _ = V.ref d := h6.2; rw [z]; exact h2⟩ (.cons h7 (.cons h8 .nil)))))))
  obtain ⟨G3, e3, S5, h3⟩ := S4.freeze fy
  exact k _ G3 _ (e1.trans (e2.trans e3)) (S.un S5) h3
/-- o.m(*e), o a cell -/
theorem ev_mtSM {α : Type} {pre : α → List Addr → Prop} {ar : α → List Rp} {mi mo : α → Ms} {rs : α → Rp} {C dx a g : Addr} {fs fs' : List (Str × Rp)} {m : Str} {ls : List Rp} {i v : Nat} (x : α) (j : Nat) (hc : ctx[i]? = some (some (rV (.ref a)))) (hw : ctx[v]? = some (some (rTup ls))) (hj : ms[j]? = some (a, .ins C dx fs)) (hf : fs.lookup m = none)
    (hx : ar x = rV (.ref a) :: ls) (hp : pre x L) (hi : mi x = [(a, .ins C dx fs)]) (ho : mo x = [(a, .ins C dx fs')]) : EvM B L (tMethS K C m g (spF pre ar mi mo rs) E (tVar i) (tVar v)) ctx ms (rs x) (ms.set j (a, .ins C dx fs')) := fun σ G H S Q k =>
  ev_var hc σ G H S _ fun w G1 H1 e1 S1 ev => by
    have c : CAt a G1 H1 (.ins C dx fs) := S1.mem.at_ _ (List.mem_of_getElem? hj)
    cases c with
    | @ins _ _ _ gs hb hal =>
      refine ⟨a, dx, gs, ev, hb, hal.look0 hf, fun q hq => ?_⟩
      obtain ⟨e2, S2⟩ := S1.new (o := .met g a) hq
      obtain ⟨w2, hw2, b, xs, eb, hb2, hal2⟩ := S2.sl.at_ v _ hw
      refine ⟨w2, hw2, b, xs, eb, SqT.of (S2.ex.tup hb2), upd_same, x, L, hp, ?_⟩
      rw [hi, ho]
      refine pr_use1 hj S2 ?_ fun v G3 H3 e3 S3 q3 => k v G3 H3 (e1.trans (e2.trans e3)) S3 q3
      rw [hx]
      exact .cons rfl hal2
end
section
variable {P : Program} {w : World} {K : PySem.W.Frag} {mg : Str → Option Value} {base : Heap}
theorem ms_Inbox_receive_ (T : Tx P w K mg base) : MtS P w K mg base 6 (He.ga K "Inbox") "receive" (mtAd "Inbox" "receive" K) (spReceive K) :=
  ⟨bm_of (T.meth fi_meth_Inbox_receive) (T.fact fi_bm_Inbox_receive) (by decide +kernel), fn_Inbox_receive T⟩
/-- an inbox made of a rule and arrivals -/
structure InX where
  ps : List Pt
  se : Bool
  As : List Arr
abbrev InX.e0 (z : InX) : Ent := ⟨z.ps, z.se, []⟩
abbrev InX.rx (z : InX) (a dx : Addr) : RecX := ⟨⟨[z.e0], 0, a, dx⟩, z.As⟩
abbrev InX.ls (z : InX) : List Arr := addAs [] z.As
abbrev InX.h (z : InX) : List Ent := if 0 < z.ls.length then [z.e0, ⟨z.ps, z.se, z.ls⟩] else [z.e0]
abbrev InX.n (z : InX) : Nat := if 0 < z.ls.length then 1 else 0
structure InX.ok (z : InX) : Prop where
  ps : okPs z.ps
  As : ∀ a ∈ z.As, okArr a
  ag : ∀ a ∈ z.As, ∀ b ∈ z.As, b.m = a.m → b = a
  ls : okLs z.ls
  len : z.As.length ≤ 12
noncomputable abbrev spInbI (K : Fr) : Sp := spF (fun (z : InX × Addr × Addr) L => z.1.ok ∧ L = []) (fun z => [rV (.ref z.2.1), rRule K z.1.ps z.1.se] ++ z.1.As.map rArr) (fun z => [(z.2.1, .ins (He.ga K "Inbox") z.2.2 [])]) (fun z => [(z.2.1, cInb K z.2.2 z.1.h z.1.n)]) (fun _ => rN)
theorem okE0 {z : InX} (h : z.ok) : okE z.e0 := ⟨h.ps, ⟨by simp, by simp, by simp⟩⟩
theorem okH0 {z : InX} (h : z.ok) : okH [z.e0] := ⟨by simp, fun e he => by rw [List.mem_singleton.mp he]; exact okE0 h, List.pairwise_singleton _ _, by simp⟩
theorem sc_Inbox_init : FnScope ["self", "rule", "arrivals"] ["self", "rule", "arrivals"] (defScope s_Inbox_init) := ⟨rfl, rfl, rfl, by decide +kernel, rfl, by decide +kernel, by decide +kernel⟩
theorem k_Inbox_ (T : Tx P w K mg base) : Mkr P w K mg base 7 "Inbox" (He.ga K "Inbox") (spInbI K) := by
  have c_require_rule := cl_require_rule T
  have k_Page := mk_Page_init_ T
  have ms_Inbox_receive := ms_Inbox_receive_ T
  obtain ⟨fd, F⟩ := T.def_ di_Inbox_init
  refine ⟨T.glo fi_glo_Inbox, _, T.mkr fi_mkr_Inbox, fnS_of (ps := ["self", "rule"]) (pv := "arrivals") (ar := fun z => [rV (.ref z.2.1), rRule K z.1.ps z.1.se]) (rest := fun z : InX × Addr × Addr => z.1.As.map rArr) F sc_Inbox_init (fun _ => rfl) (fun z L hp => by rw [List.length_map]; exact Nat.le_trans hp.1.len (by omega)) (fun kV doc pm an cdv ct => StX.bind_star2 (B := fun us => bindArgs (PySem.W.fnOf d_Inbox_init.name d_Inbox_init.qual d_Inbox_init.params d_Inbox_init.body d_Inbox_init.scope .none kV doc pm an cdv ct) ⟨us, []⟩) (fun a b => rfl) (fun a b r rs => rfl)) fun cdv A outer s H0 vs Q E hr z L G hp k S => ?_⟩
  obtain ⟨⟨ps, se, As⟩, a, dx⟩ := z
  obtain ⟨hx, rfl⟩ := hp
  have he0 : okE ⟨ps, se, []⟩ := okE0 hx
  obtain ⟨hps, hAs, hag, hls, hlen⟩ := hx
  dsimp only at hps hAs hag hls hlen
  refine ⟨_, (pss_cons (ps_expr (pe_callR c_require_rule hr (by decide) (by rfl) (pa_cons (pv 1) pa_nil)))
    (pss_cons (ps_fldK (K := K) (pv 0) (pe_tup (pa_cons (pe_mk k_Page hr (by decide) (by rfl) (pa_cons (pv 1) (pa_cons pe_dnewK pa_nil))) pa_nil)) rfl)
    (pss_cons (ps_fldK (K := K) (pv 0) pe_int rfl)
    (pss_cons (ps_fldK (K := K) (pv 0) (pe_tup pa_nil) rfl)
    (pss_one (ps_expr (pe_mtSK (K := K) (T.cls fi_cls_Inbox) ms_Inbox_receive hr (by decide) (pv 0) (pv 2)))))))), ?_⟩
  try dsimp only [L2.cxOf]
  refine st_dropP (ev_call (ps, se) (ea_cons (ev_var rfl) ea_nil) trivial) S fun G1 H1 e1 S1 => ?_
  dsimp only
  refine st_fldP 0 (r := rTup [rPage K [⟨ps, se, []⟩]]) (ev_tup (ea_cons (ev_page1 (e := ⟨ps, se, []⟩) (fun B => ea_cons (ev_var rfl) (ea_cons ev_dnewP ea_nil)) he0 rfl) ea_nil) (by simp)) (ev_var rfl) rfl (cls_Inbox T) (na_pages T) (by simp) rfl S1 fun G2 H2 e2 S2 => ?_
  dsimp only
  refine st_fldP 0 (r := rN_ 0) ev_c (ev_var rfl) rfl (cls_Inbox T) (na_version T) (by simp) rfl S2 fun G3 H3 e3 S3 => ?_
  dsimp only
  refine st_fldP 0 (r := rTup []) (ev_tup ea_nil (by simp)) (ev_var rfl) rfl (cls_Inbox T) (na_marks T) (by simp) rfl S3 fun G4 H4 e4 S4 => ?_
  dsimp only
  have S4 : Sx _ [] _ [(a, cInb K dx [⟨ps, se, []⟩] 0)] _ G4 H4 := S4
  refine st_drop (ev_mtSM (rs := fun y : RecX => rN_ y.many) (InX.rx ⟨ps, se, As⟩ a dx) 0 rfl rfl rfl rfl rfl ⟨⟨⟨okH0 ⟨hps, hAs, hag, hls, hlen⟩, by simp⟩, hAs, fun a ha b hb e => hb.elim (fun h => nomatch h) fun h => hag a ha b h e, hls, hlen⟩, rfl⟩ rfl rfl) S4 fun G5 H5 e5 S5 => ?_
  exact k _ _ G5 H5 S5 .non rfl
/-- an inbox made, a cell -/
theorem ev_mkInbM {B : Bs} {ctx : Ct} {ms ms1 : Ms} {tl : TA} {σ : L2.St} {G H : Hp} {E : XK} {Q : VK} {z : InX} (h : EvA B [] tl ctx ms (rRule K z.ps z.se :: z.As.map rArr) ms1) (ho : z.ok) (S : Sx B [] ctx ms σ G H)
    (k : ∀ y dx G' H', Same G G' → Sx B [] ctx ((y, cInb K dx z.h z.n) :: ms1) σ G' H' → Q (.ref y) H') : StX.tMakeR (He.ga K "Inbox") (spInbI K) E tl σ H Q := h σ G H S _ fun vs G1 H1 e1 S1 hal => fun y dx hy hdx hne => by
  obtain ⟨e2, S2⟩ := S1.new (o := .own y) hdx
  have hy1 : upd H1 dx (.own y) y = none := by rw [upd_ne (Ne.symm hne)]; exact hy
  have S3 := S2.newM (c := .ins (He.ga K "Inbox") dx []) hy1 (.ins (gs := []) upd_same .nil)
  refine ⟨(z, y, dx), [], ⟨ho, rfl⟩, ?_⟩
  exact pr_useN (mi := [(y, .ins (He.ga K "Inbox") dx [])]) S3 (.cons rfl (hal.mono e2)) (fun p hp => by rw [List.mem_singleton.mp hp]; simp) fun v G' H' e3 S4 hv => ⟨hv, k y dx G' H' (e1.trans (e2.trans e3)) S4⟩
/-- .. that will not change -/
theorem mk_freeze {B : Bs} {ctx : Ct} {ms : Ms} {σ : L2.St} {G H G' H' : Hp} {y dx : Addr} {h : List Ent} {n : Nat} (S : Sx B [] ctx ms σ G H) (S1 : Sx ⟨ms.map (·.1), G, H⟩ [] ctx ((y, cInb K dx h n) :: ms) σ G' H') : ∃ G2, Same G' G2 ∧ Sx B [] ctx ms σ G2 H' ∧ (rInb K h n).ok (.ref y) G2 := by
  have nd := S1.mem.nd
  rw [List.map_cons] at nd
  have fy : H y = none := (S1.own _ List.mem_cons_self).resolve_left (List.nodup_cons.mp nd).1
  obtain ⟨G2, e2, S2, h2⟩ := S1.freeze fy
  exact ⟨G2, e2, S.un S2, h2⟩
theorem ev_mkInb {B : Bs} {ctx : Ct} {ms : Ms} {tl : TA} {E : XK} {z : InX} (h : ∀ B, EvA B [] tl ctx ms (rRule K z.ps z.se :: z.As.map rArr) ms) (ho : z.ok) : EvM B [] (StX.tMakeR (He.ga K "Inbox") (spInbI K) E tl) ctx ms (rInb K z.h z.n) ms := fun σ G H S Q k =>
  ev_mkInbM (h _) ho S.re fun y dx G1 H1 e1 S1 => by
    obtain ⟨G2, e2, S2, h2⟩ := mk_freeze S S1
    exact k _ G2 H1 (e1.trans e2) S2 h2
theorem ev_mkInbV {B : Bs} {ctx : Ct} {ms : Ms} {tl : TA} {E : XK} {z : InX} {i : Nat} (hc : ctx[i]? = some (some (rV (.ref (He.ga K "Inbox"))))) (h : ∀ B, EvA B [] tl ctx ms (rRule K z.ps z.se :: z.As.map rArr) ms) (ho : z.ok) : EvM B [] (tMakeV (He.ga K "Inbox") (spInbI K) E (tVar i) tl) ctx ms (rInb K z.h z.n) ms := fun σ G H S Q k =>
  ev_var hc σ G H S _ fun y G1 H1 e1 S1 hy => ⟨hy, ev_mkInb (E := E) h ho σ G1 H1 S1 _ fun v G' H' e S' q => k v G' H' (e1.trans e) S' q⟩
noncomputable abbrev spInbOf (K : Fr) : Sp := spP (fun (z : InX) L => z.ok ∧ L = []) (fun z => [rV (.ref (He.ga K "Inbox")), rRule K z.ps z.se, rTup (z.As.map rArr)]) (fun z => rInb K z.h z.n)
theorem sc_Inbox_of : FnScope ["cls", "rule", "arrivals"] ["cls", "rule", "arrivals"] (defScope s_Inbox_of) := ⟨rfl, rfl, rfl, by decide +kernel, rfl, by decide +kernel, by decide +kernel⟩
theorem cm_Inbox_of_ (T : Tx P w K mg base) : Cm P w K mg base 9 "Inbox" (He.ga K "Inbox") "of" (spInbOf K) := by
  have c_require_rule := cl_require_rule T
  have k_Inbox := k_Inbox_ T
  obtain ⟨fd, F⟩ := T.def_ di_Inbox_of
  refine ⟨T.glo fi_glo_Inbox, _, _, _, (cm_of (T.fact fi_cm_Inbox_of)).1, (cm_of (T.fact fi_cm_Inbox_of)).2, fnR_of F sc_Inbox_of (fun _ => rfl) (fun _ _ _ _ _ _ us hl => match us, hl with | [_, _, _], _ => rfl) fun cdv A outer s H0 vs Q E hr z L G hp k S => ?_⟩
  obtain ⟨ps, se, As⟩ := z
  obtain ⟨hx, rfl⟩ := hp
  refine ⟨_, (pss_cons (ps_expr (pe_callR c_require_rule hr (by decide) (by rfl) (pa_cons (pv 1) pa_nil)))
    (pss_cons (ps_if (pt_not (pt_val (pe_callB (id := "isinstance") (call_isiK (K := K)) (by rfl) (T.free fi_free_isinstance) (by decide +kernel) (pa_cons (pv 2) (pa_cons (pe_bltn (v := .ty "tuple") (by rfl) (T.free fi_free_tuple) (by decide +kernel) rfl) pa_nil))))) (pss_one ps_never) pss_nil)
    (pss_one (ps_ret (pe_mkS2 k_Inbox hr (by decide) (pv 0) (pa_cons (pv 1) (pa_starK (K := K) (pv 2) pa_nil))))))), ?_⟩
  try dsimp only [L2.cxOf]
  refine st_dropP (ev_call (ps, se) (ea_cons (ev_var rfl) ea_nil) trivial) S fun G1 H1 e1 S1 => ?_
  dsimp only
  refine st_ifFP (et_b (et_not (et_B (ev_cb (ea_cons (ev_var rfl) (ea_cons ev_c ea_nil)) (isi_tup T)))) rfl) S1 fun G2 H2 e2 S2 => ?_
  dsimp only [tNext]
  refine st_retP (rInb K (InX.h ⟨ps, se, As⟩) (InX.n ⟨ps, se, As⟩)) ?_ S2 fun v G' H' e S' hv => k _ _ G' H' S' v hv
  exact ev_mkInbV (z := ⟨ps, se, As⟩) rfl (fun B => ea_is (ea_cons (ev_var rfl) (ea_starT (ev_var rfl) ea_nil)) (by rw [List.append_nil])) hx
end
end K62
set_option maxHeartbeats 4000000
/-! K62Gc: arrivals handed over. -/
namespace K62
open PySem PySem.Spec PyProof.Rows L2
local macro_rules | `(tactic| walk_at "ev") => `(tactic| repeat' (first
  | ((with_reducible apply ev_var); exact rfl)
  | with_reducible exact ev_c
  | with_reducible exact ea_nil
  | with_reducible exact et_yes
  | with_reducible exact rv_I0
  | with_reducible exact eo_none
  | with_reducible apply eo_some
  | with_reducible apply ea_cons
  | with_reducible apply ev_op
  | (with_reducible apply ev_andV <;> try intro _)
  | (with_reducible apply ev_orV <;> try intro _)
  | with_reducible apply ev_notV
  | with_reducible apply ev_tup
  | with_reducible apply ev_lst
  | with_reducible apply ev_neg
  | with_reducible apply ev_cb
  | with_reducible apply et_B
  | with_reducible apply et_val
  | with_reducible apply et_not
  | (with_reducible apply et_and <;> try intro _)
  | (with_reducible apply et_or <;> try intro _)
  | with_reducible apply ev_call
  | with_reducible apply ev_fld
  | with_reducible exact cls_Cutter (by assumption)
  | with_reducible exact cls_Rule (by assumption)
  | with_reducible exact cls_Page (by assumption)
  | with_reducible exact cls_Inbox (by assumption)
  | with_reducible exact na_parts (by assumption)
  | with_reducible exact na_tables (by assumption)
  | with_reducible exact na_whole (by assumption)
  | with_reducible exact na_cutter (by assumption)
  | with_reducible exact na_sees (by assumption)
  | with_reducible exact na_rule (by assumption)
  | with_reducible exact na_pmarks (by assumption)
  | with_reducible exact na_letters (by assumption)
  | with_reducible exact na_bound (by assumption)
  | with_reducible exact na_shown (by assumption)
  | with_reducible exact na_moves (by assumption)
  | with_reducible exact na_near (by assumption)
  | with_reducible exact na_groups (by assumption)
  | with_reducible exact na_pages (by assumption)
  | with_reducible exact na_version (by assumption)
  | with_reducible exact na_marks (by assumption)
  | with_reducible exact isi_str (by assumption)
  | with_reducible exact isi_int (by assumption)
  | with_reducible exact isi_intbool (by assumption)
  | with_reducible exact isi_bool (by assumption)
  | with_reducible exact isi_tup (by assumption)
  | with_reducible exact isi_Cutter (by assumption)
  | with_reducible exact isi_Rule (by assumption)
  | with_reducible exact isi_Inbox (by assumption)
  | with_reducible exact rc_lenT
  | with_reducible exact rc_lenL
  | with_reducible apply rc_lenS
  | with_reducible exact rc_abs
  | with_reducible exact rc_max
  | with_reducible exact rc_min
  | with_reducible exact rc_int
  | with_reducible exact rc_intB
  | with_reducible exact rv_inSign
  | with_reducible exact rv_inT
  | with_reducible exact rv_inL
  | with_reducible exact rv_ninL
  | with_reducible exact rv_ixT0
  | with_reducible exact rv_ixT1
  | with_reducible exact rv_ixT2
  | with_reducible exact rv_ixT3
  | with_reducible exact rv_ixL0
  | with_reducible exact rv_ixL1
  | with_reducible exact rv_ixL2))
section
variable {B : Bs} {L : List Addr} {ctx : Ct} {ms ms1 ms2 : Ms} {tl : TA} {K : PySem.W.Frag}
theorem ev_receive {i j : Nat} (y : RecX) (hc : ctx[i]? = some (some (rV (.ref y.x.a)))) (hj : ms[j]? = some (y.x.a, cInb K y.x.dx y.x.h y.x.now)) (ha : EvA B [] tl ctx ms (y.As.map rArr) ms) (ho : y.ok) :
    EvM B [] (tMethR (He.ga K "Inbox") "receive" (spReceive K) E0 (tVar i) tl) ctx ms (rN_ y.many) (ms.set j (y.x.a, cInb K y.x.dx y.h' y.n')) :=
  ev_mtM (rs := fun y : RecX => rN_ y.many) (ls := y.As.map rArr) (fs' := inbF K y.h' y.n') y j j (ev_var hc) hj rfl ha hj rfl ⟨ho, rfl⟩ rfl rfl
theorem eqv_arrs : ∀ {As : List Arr}, PyData.eqv (.list (As.map dArr)) (.list []) = As.isEmpty
  | [] => by simp [PyData.eqv, PyData.eqvAll]
  | _ :: _ => by simp [PyData.eqv, PyData.eqvAll]
theorem rv_eqNilA {As : List Arr} (h : ∀ a ∈ As, okArr a) : RvM B L (rEqD K) (rLst (As.map rArr)) (rLst []) ctx ms (rB As.isEmpty) ms := by
  have h1 : Dat K (rLst (As.map rArr)) (.list (As.map dArr)) := dat_lst (paired_map fun _ _ => dat_arr)
  have h2 : Dat K (rLst []) (.list []) := dat_lst .nil
  have z := rv_eqD (B := B) (L := L) (ctx := ctx) (ms := ms) h1 h2 ((da_lst (da_map fun a ha => da_arr (h a ha))).shaped (by omega)) ((da_lst (k := 0) (by simp)).shaped (by omega))
  rw [eqv_arrs] at z
  exact z
end
section
variable {P : Program} {w : World} {K : PySem.W.Frag} {mg : Str → Option Value} {base : Heap}
noncomputable abbrev spReceived (K : Fr) : Sp := spF (fun (y : RecX) L => (y.ok ∧ y.As.length ≤ 3) ∧ L = []) (fun y => [rV (.ref y.x.a), rLst (y.As.map rArr)]) (fun y => y.x.c K) (fun y => [(y.x.a, cInb K y.x.dx y.h' y.n')]) (fun y => rN_ y.many)
theorem sc_law_received : FnScope ["_law_inbox", "_law_row"] ["_law_inbox", "_law_row"] (defScope s_law_received) := ⟨rfl, rfl, rfl, by decide +kernel, rfl, by decide +kernel, by decide +kernel⟩
theorem cl_law_received (T : Tx P w K mg base) : Cl P w K mg base 7 "_law_received" (spReceived K) := by
  obtain ⟨fd, F⟩ := T.def_ di_law_received
  refine ⟨_, T.glo fi_glo_law_received, F.kp, fnR_of F sc_law_received (fun _ => rfl) (fun _ _ _ _ _ _ us hl => match us, hl with | [_, _], _ => rfl) fun cdv A outer s H0 vs Q E hr z L G hp k S => ?_⟩
  have m_Inbox_receive := m_Inbox_receive_ T
  obtain ⟨x, As⟩ := z
  obtain ⟨⟨hx, h3⟩, rfl⟩ := hp
  have hAs := hx.As
  dsimp only at h3 hAs
  refine ⟨_, (pss_cons (ps_if (pt_cmpR (op_eqDK (K := K) hr.units) (pv 1) (pe_lst pa_nil) (nomark _)) (pss_one (ps_ret (pe_mt0 (T.cls fi_cls_Inbox) m_Inbox_receive hr (by decide) (pv 0)))) pss_nil)
    (pss_cons (ps_if (pt_cmpR op_eq (pe_callB (id := "len") (call_lenK (K := K)) (by rfl) (T.free fi_free_len) (by decide +kernel) (pa_cons (pv 1) pa_nil)) pe_int (nomark _)) (pss_one (ps_ret (pe_mt (T.cls fi_cls_Inbox) m_Inbox_receive hr (by decide) (pv 0) (pa_cons (pe_ix (ix_listK (K := K)) (pv 1) pe_int (fun _ _ => rfl)) pa_nil)))) pss_nil)
    (pss_one (ps_ret (pe_ifExp (pt_cmpR op_eq (pe_callB (id := "len") (call_lenK (K := K)) (by rfl) (T.free fi_free_len) (by decide +kernel) (pa_cons (pv 1) pa_nil)) pe_int (nomark _)) (pe_mt (T.cls fi_cls_Inbox) m_Inbox_receive hr (by decide) (pv 0) (pa_cons (pe_ix (ix_listK (K := K)) (pv 1) pe_int (fun _ _ => rfl)) (pa_cons (pe_ix (ix_listK (K := K)) (pv 1) pe_int (fun _ _ => rfl)) pa_nil))) (pe_mt (T.cls fi_cls_Inbox) m_Inbox_receive hr (by decide) (pv 0) (pa_cons (pe_ix (ix_listK (K := K)) (pv 1) pe_int (fun _ _ => rfl)) (pa_cons (pe_ix (ix_listK (K := K)) (pv 1) pe_int (fun _ _ => rfl)) (pa_cons (pe_ix (ix_listK (K := K)) (pv 1) pe_int (fun _ _ => rfl)) pa_nil))))))))), ?_⟩
  try dsimp only [L2.cxOf]
  match As, hx, h3, hAs, S, k with
  | [], hx, h3, hAs, S, k =>
    refine st_ifT (ms1 := x.c K) (et_b (et_val (ev_op (ev_var rfl) ev_nil (rv_eqNilA hAs))) rfl) S fun G1 H1 e1 S1 => ?_
    exact st_ret (ev_receive (⟨x, []⟩ : RecX) (i := 0) (j := 0) rfl rfl ea_nil hx) S1 fun v G' H' e S' hv => k _ _ G' H' S' v hv
  | [a], hx, h3, hAs, S, k =>
    refine st_ifFP (et_b (et_val (ev_op (ev_var rfl) ev_nil (rv_eqNilA hAs))) rfl) S fun G1 H1 e1 S1 => ?_
    dsimp only [tNext]
    refine st_ifT (ms1 := x.c K) (et_b (et_val (ev_op (ev_cb (ea_cons (ev_var rfl) ea_nil) rc_lenL) ev_c (rv_eq rfl))) (by simp)) S1 fun G2 H2 e2 S2 => ?_
    exact st_ret (ev_receive (⟨x, [a]⟩ : RecX) (i := 0) (j := 0) rfl rfl (ea_cons (ev_op (ev_var rfl) ev_c rv_ixL0) ea_nil) hx) S2 fun v G' H' e S' hv => k _ _ G' H' S' v hv
  | [a, b], hx, h3, hAs, S, k =>
    refine st_ifFP (et_b (et_val (ev_op (ev_var rfl) ev_nil (rv_eqNilA hAs))) rfl) S fun G1 H1 e1 S1 => ?_
    dsimp only [tNext]
    refine st_ifFP (et_b (et_val (ev_op (ev_cb (ea_cons (ev_var rfl) ea_nil) rc_lenL) ev_c (rv_eq rfl))) (by simp)) S1 fun G2 H2 e2 S2 => ?_
    dsimp only [tNext]
    exact st_ret (ev_if (b := true) (et_b (et_val (ev_op (ev_cb (ea_cons (ev_var rfl) ea_nil) rc_lenL) ev_c (rv_eq rfl))) (by simp)) (fun _ => ev_receive (⟨x, [a, b]⟩ : RecX) (i := 0) (j := 0) rfl rfl (ea_cons (ev_op (ev_var rfl) ev_c rv_ixL0) (ea_cons (ev_op (ev_var rfl) ev_c rv_ixL1) ea_nil)) hx) fun h => nomatch h) S2 fun v G' H' e S' hv => k _ _ G' H' S' v hv
  | [a, b, c], hx, h3, hAs, S, k =>
    refine st_ifFP (et_b (et_val (ev_op (ev_var rfl) ev_nil (rv_eqNilA hAs))) rfl) S fun G1 H1 e1 S1 => ?_
    dsimp only [tNext]
    refine st_ifFP (et_b (et_val (ev_op (ev_cb (ea_cons (ev_var rfl) ea_nil) rc_lenL) ev_c (rv_eq rfl))) (by simp)) S1 fun G2 H2 e2 S2 => ?_
    dsimp only [tNext]
    exact st_ret (ev_if (b := false) (et_b (et_val (ev_op (ev_cb (ea_cons (ev_var rfl) ea_nil) rc_lenL) ev_c (rv_eq rfl))) (by simp)) (fun h => nomatch h) fun _ => ev_receive (⟨x, [a, b, c]⟩ : RecX) (i := 0) (j := 0) rfl rfl (ea_cons (ev_op (ev_var rfl) ev_c rv_ixL0) (ea_cons (ev_op (ev_var rfl) ev_c rv_ixL1) (ea_cons (ev_op (ev_var rfl) ev_c rv_ixL2) ea_nil))) hx) S2 fun v G' H' e S' hv => k _ _ G' H' S' v hv
  | a :: b :: c :: d :: t, hx, h3, hAs, S, k => exact absurd h3 (by simp)
end
end K62
set_option maxHeartbeats 4000000
/-! K62Gd: data shown; an inbox asked. -/
namespace K62
open PySem PySem.Spec PyProof.Rows L2
/-! ### data that is shown -/
structure Shw (w : Nat) (d : PyData) : Prop where
  lay : d.canLay0 = true
  sho : d.showable = true
  its : d.intsShort 13 = true
  wt : d.weight ≤ w
theorem shw_int {i : Int} (h : i.natAbs < 1000000000000) : Shw 41 (.int i) := by
  have h2 : i.natAbs.log2 < 40 := by
    by_cases z : i.natAbs = 0
    · rw [z]; decide
    · exact (Nat.log2_lt z).mpr (by omega)
  refine ⟨by simp only [PyData.canLay0], ?_, ?_, ?_⟩
  · simp only [PyData.showable]
    exact decide_eq_true (by omega)
  · simp only [PyData.intsShort]
    exact decide_eq_true (PyData.shown_int_le h)
  · simp only [PyData.weight]
    split <;> omega
theorem shw_non : Shw 0 .none := ⟨by simp only [PyData.canLay0], by simp only [PyData.showable], by simp only [PyData.intsShort], by simp only [PyData.weight]; omega⟩
theorem shw_bool {b : Bool} : Shw 0 (.bool b) := ⟨by simp only [PyData.canLay0], by simp only [PyData.showable], by simp only [PyData.intsShort], by simp only [PyData.weight]; omega⟩
theorem shw_str {s : Str} (h : PyData.strOk s = true) (hl : s.length ≤ 8) : Shw 8 (.str s) := ⟨by simp only [PyData.canLay0]; exact h, by simp only [PyData.showable], by simp only [PyData.intsShort], by simp only [PyData.weight]; exact hl⟩
theorem Shw.up {w w' : Nat} {d : PyData} (h : Shw w d) (e : w ≤ w') : Shw w' d := ⟨h.lay, h.sho, h.its, Nat.le_trans h.wt e⟩
theorem shw_all {w : Nat} : ∀ {l : List PyData}, (∀ d ∈ l, Shw w d) → PyData.canLayAll0 l = true ∧ PyData.showableAll l = true ∧ PyData.intsShortAll 13 l = true ∧ PyData.weightAll l ≤ (w + 1) * l.length
  | [], _ => ⟨rfl, rfl, rfl, Nat.zero_le _⟩
  | d :: l, h => by
    have h1 := h d List.mem_cons_self
    obtain ⟨a, b, c, e⟩ := shw_all (l := l) fun x hx => h x (List.mem_cons_of_mem _ hx)
    refine ⟨?_, ?_, ?_, ?_⟩
    · simp only [PyData.canLayAll0, h1.lay, a, Bool.and_self]
    · simp only [PyData.showableAll, h1.sho, b, Bool.and_self]
    · simp only [PyData.intsShortAll, h1.its, c, Bool.and_self]
    · simp only [PyData.weightAll, List.length_cons]
      have := h1.wt
      rw [Nat.mul_add, Nat.mul_one]
      omega
theorem shw_tup {w n : Nat} {l : List PyData} (h : ∀ d ∈ l, Shw w d) (hn : l.length ≤ n) : Shw ((w + 1) * n) (.tuple l) := by
  obtain ⟨a, b, c, e⟩ := shw_all h
  exact ⟨by simp only [PyData.canLay0]; exact a, by simp only [PyData.showable]; exact b, by simp only [PyData.intsShort]; exact c, by simp only [PyData.weight]; exact Nat.le_trans e (Nat.mul_le_mul_left _ hn)⟩
theorem shw_lst {w n : Nat} {l : List PyData} (h : ∀ d ∈ l, Shw w d) (hn : l.length ≤ n) : Shw ((w + 1) * n) (.list l) := by
  obtain ⟨a, b, c, e⟩ := shw_all h
  exact ⟨by simp only [PyData.canLay0]; exact a, by simp only [PyData.showable]; exact b, by simp only [PyData.intsShort]; exact c, by simp only [PyData.weight]; exact Nat.le_trans e (Nat.mul_le_mul_left _ hn)⟩
theorem shw_map {α : Type} {w : Nat} {f : α → PyData} {l : List α} (h : ∀ a ∈ l, Shw w (f a)) : ∀ d ∈ l.map f, Shw w d := fun d hd => by
  obtain ⟨a, ha, rfl⟩ := List.mem_map.mp hd
  exact h a ha
section
variable {B : Bs} {L : List Addr} {ctx : Ct} {ms ms1 ms2 : Ms} {ta ti : TE} {tl : TA} {K : PySem.W.Frag} {r : Rp} {C dx a : Addr} {fs : List (Str × Rp)} {E : XK} {α : Type} {pre : α → List Addr → Prop} {ar : α → List Rp} {mi mo : α → Ms} {rs : α → Rp}
theorem rc_repr {d : PyData} {k w : Nat} (hd : Dat K r d) (h1 : Da k d) (h2 : Shw w d) (hk : k ≤ 20) (hw : w ≤ 1000000) : RcM B L (rRepr K) [r] ctx ms (rS d.shown) ms := fun σ G H xs S hal Q q => by
  obtain ⟨v, rfl, hv⟩ := al1 hal
  refine ⟨v, d, rfl, hd _ _ _ _ S.ex hv, h2.sho, PyData.hasDict_of_canLay d h2.lay, Nat.le_trans h1.2 hk, PyData.shown_fits (B := 13) (by omega) (by omega) (PyData.leavesShort_of_canLay0 13 d h2.lay h2.its) ?_, q _ G H (Same.refl G) S rfl⟩
  have := h2.wt
  omega
/-- o[i], o a cell -/
theorem ev_subM {i : Rp} (x : α) (j : Nat) (h : EvM B L ta ctx ms (rV (.ref a)) ms1) (hi : EvM B L ti ctx ms1 i ms2) (hj : ms2[j]? = some (a, .ins C dx fs)) (hx : ar x = [rV (.ref a), i]) (hp : pre x L) (h1 : mi x = [(a, .ins C dx fs)]) (h2 : mo x = [(a, .ins C dx fs)]) :
    EvM B L (tSubO C (spF pre ar mi mo rs) E ta ti) ctx ms (rs x) ms2 := fun σ G H S Q k =>
  h σ G H S _ fun v G1 H1 e1 S1 ev => hi σ G1 H1 S1 _ fun y G2 H2 e2 S2 hy => by
    have c : CAt a G2 H2 (.ins C dx fs) := S2.mem.at_ _ (List.mem_of_getElem? hj)
    cases c with
    | @ins _ _ _ gs hb hal =>
      refine ⟨a, dx, gs, ev, hb, x, L, hp, ?_⟩
      rw [h1, h2]
      refine pr_use1 hj S2 (by rw [hx]; exact .cons rfl (.cons hy .nil)) fun v G3 H3 e3 S3 q3 => k v G3 H3 (e1.trans (e2.trans e3)) (by rw [set_same hj] at S3; exact S3) q3
/-- len(o), str(o), o a cell -/
theorem rc_lenOM {n : Nat} (x : α) (j : Nat) (hj : ms[j]? = some (a, .ins C dx fs)) (hx : ar x = [rV (.ref a)]) (hp : pre x L) (h1 : mi x = [(a, .ins C dx fs)]) (h2 : mo x = [(a, .ins C dx fs)]) (hr : rs x = rN_ n) (hn : n ≤ 1000) :
    RcM B L (rLenO C (spF pre ar mi mo rs) E) [rV (.ref a)] ctx ms (rN_ n) ms := fun σ G H xs S hal Q k => by
  obtain ⟨v, rfl, ev⟩ := al1 hal
  have ev : v = .ref a := ev
  subst ev
  have c : CAt a G H (.ins C dx fs) := S.mem.at_ _ (List.mem_of_getElem? hj)
  cases c with
  | @ins _ _ _ gs hb hal =>
    refine ⟨a, dx, gs, rfl, hb, x, L, hp, ?_⟩
    rw [h1, h2, hr]
    refine pr_use1 hj S (by rw [hx]; exact .cons rfl .nil) fun v G3 H3 e3 S3 q3 => ⟨(n : Int), q3, by omega, by omega, k _ G3 H3 e3 (by rw [set_same hj] at S3; exact S3) rfl⟩
theorem rc_strOM {z : Str} (x : α) (j : Nat) (hj : ms[j]? = some (a, .ins C dx fs)) (hx : ar x = [rV (.ref a)]) (hp : pre x L) (h1 : mi x = [(a, .ins C dx fs)]) (h2 : mo x = [(a, .ins C dx fs)]) (hr : rs x = rS z) :
    RcM B L (rStrO C (spF pre ar mi mo rs) E) [rV (.ref a)] ctx ms (rS z) ms := fun σ G H xs S hal Q k => by
  obtain ⟨v, rfl, ev⟩ := al1 hal
  have ev : v = .ref a := ev
  subst ev
  have c : CAt a G H (.ins C dx fs) := S.mem.at_ _ (List.mem_of_getElem? hj)
  cases c with
  | @ins _ _ _ gs hb hal =>
    refine ⟨a, dx, gs, rfl, hb, x, L, hp, ?_⟩
    rw [h1, h2, hr]
    refine pr_use1 hj S (by rw [hx]; exact .cons rfl .nil) fun v G3 H3 e3 S3 q3 => ⟨z, q3, k _ G3 H3 e3 (by rw [set_same hj] at S3; exact S3) rfl⟩
end
/-! ### an inbox asked -/
section
variable {B : Bs} {L : List Addr} {ctx : Ct} {ms ms1 ms2 : Ms} {ta : TE} {tl : TA} {K : PySem.W.Frag} {i j : Nat} {m : Int} {x : Ib}
theorem ev_shown (x : Ib) (m : Int) (hc : ctx[i]? = some (some (rV (.ref x.a)))) (ha : EvA B L tl ctx ms [rI m] ms) (hj : ms[j]? = some (x.a, cInb K x.dx x.h x.now)) (ho : x.ok) (hi : m ∈ marks x.e.ls) :
    EvM B L (tMethR (He.ga K "Inbox") "shown" (spR1 K (fun x i _ => i ∈ marks x.e.ls) (fun x i => rOpt (plc x.e i))) E0 (tVar i) tl) ctx ms (rOpt (plc x.e m)) ms :=
  ev_mtM0 (rs := fun z : Ib × Int => rOpt (plc z.1.e z.2)) (ls := [rI m]) (x, m) j j (ev_var hc) hj rfl ha hj rfl ⟨ho, hi⟩ rfl rfl
theorem ev_below (x : Ib) (m : Int) (hc : ctx[i]? = some (some (rV (.ref x.a)))) (ha : EvA B [] tl ctx ms [rI m] ms) (hj : ms[j]? = some (x.a, cInb K x.dx x.h x.now)) (ho : x.ok) (hi : m ∈ marks x.e.ls) :
    EvM B [] (tMethR (He.ga K "Inbox") "below" (spR1 K (fun x i L => i ∈ marks x.e.ls ∧ L = []) (fun x i => rInts (belowL x.e i))) E0 (tVar i) tl) ctx ms (rInts (belowL x.e m)) ms :=
  ev_mtM0 (rs := fun z : Ib × Int => rInts (belowL z.1.e z.2)) (ls := [rI m]) (x, m) j j (ev_var hc) hj rfl ha hj rfl ⟨ho, hi, rfl⟩ rfl rfl
theorem ev_moves (x : Ib) (m : Int) (hc : ctx[i]? = some (some (rV (.ref x.a)))) (ha : EvA B L tl ctx ms [rI m] ms) (hj : ms[j]? = some (x.a, cInb K x.dx x.h x.now)) (ho : x.ok) (hi : m ∈ marks x.e.ls) :
    EvM B L (tMethR (He.ga K "Inbox") "moves" (spR1 K (fun x i _ => i ∈ marks x.e.ls) (fun x i => rN_ (mvs (x.h.take (x.now + 1)) i))) E0 (tVar i) tl) ctx ms (rN_ (mvs (x.h.take (x.now + 1)) m)) ms :=
  ev_mtM0 (rs := fun z : Ib × Int => rN_ (mvs (z.1.h.take (z.1.now + 1)) z.2)) (ls := [rI m]) (x, m) j j (ev_var hc) hj rfl ha hj rfl ⟨ho, hi⟩ rfl rfl
theorem ev_item (x : Ib) (m : Int) {ti : TE} (hc : ctx[i]? = some (some (rV (.ref x.a)))) (ha : EvM B L ti ctx ms (rI m) ms) (hj : ms[j]? = some (x.a, cInb K x.dx x.h x.now)) (ho : x.ok) (hi : m ∈ marks x.e.ls) :
    EvM B L (tSubO (He.ga K "Inbox") (spR1 K (fun x i _ => i ∈ marks x.e.ls) (fun x i => rArr (arrOf x.e.ls i))) E0 (tVar i) ti) ctx ms (rArr (arrOf x.e.ls m)) ms :=
  ev_subM (rs := fun z : Ib × Int => rArr (arrOf z.1.e.ls z.2)) (x, m) j (ev_var hc) ha hj rfl ⟨ho, hi⟩ rfl rfl
theorem rv_ninI (x : Ib) (m : Int) (hj : ms[j]? = some (x.a, cInb K x.dx x.h x.now)) (ho : x.ok) (h0 : 0 ≤ m) :
    RvM B L (rInO (He.ga K "Inbox") (spR1 K (fun x i _ => 0 ≤ i) (fun x i => rB (decide (i ∈ marks x.e.ls)))) E0 true) (rI m) (rV (.ref x.a)) ctx ms (rB (!decide (m ∈ marks x.e.ls))) ms :=
  rv_inOM (neg := true) (b := decide (m ∈ marks x.e.ls)) (x, m) ⟨ho, h0⟩ hj rfl rfl rfl
theorem rc_lenI (x : Ib) (hj : ms[j]? = some (x.a, cInb K x.dx x.h x.now)) (ho : x.ok) : RcM B [] (rLenO (He.ga K "Inbox") (spR K (fun _ L => L = []) (fun x => rN_ x.e.ls.length)) E0) [rV (.ref x.a)] ctx ms (rN_ x.e.ls.length) ms :=
  rc_lenOM (rs := fun x : Ib => rN_ x.e.ls.length) x j hj rfl ⟨ho, rfl⟩ rfl rfl rfl (Nat.le_trans ho.e.ls.len (by omega))
theorem rc_strI (x : Ib) (hj : ms[j]? = some (x.a, cInb K x.dx x.h x.now)) (ho : x.ok) : RcM B [] (rStrO (He.ga K "Inbox") (spR K (fun _ L => L = []) (fun x => rS (shS x.e.ls.length (groups x.e).length))) E0) [rV (.ref x.a)] ctx ms (rS (shS x.e.ls.length (groups x.e).length)) ms :=
  rc_strOM (rs := fun x : Ib => rS (shS x.e.ls.length (groups x.e).length)) x j hj rfl ⟨ho, rfl⟩ rfl rfl rfl
theorem ev_marks (x : Ib) (hc : ctx[i]? = some (some (rV (.ref x.a)))) (hj : ms[j]? = some (x.a, cInb K x.dx x.h x.now)) (ho : x.ok) : EvM B L (tPrR (He.ga K "Inbox") (spR K (fun _ _ => True) (fun x => rInts (marks x.e.ls))) E0 (tVar i)) ctx ms (rInts (marks x.e.ls)) ms :=
  ev_prM (rs := fun x : Ib => rInts (marks x.e.ls)) x j (ev_var hc) hj rfl ⟨ho, trivial⟩ rfl rfl
theorem ev_version (x : Ib) (hc : ctx[i]? = some (some (rV (.ref x.a)))) (hj : ms[j]? = some (x.a, cInb K x.dx x.h x.now)) (ho : x.ok) : EvM B L (tPrR (He.ga K "Inbox") (spR K (fun _ _ => True) (fun x => rN_ x.now)) E0 (tVar i)) ctx ms (rN_ x.now) ms :=
  ev_prM (rs := fun x : Ib => rN_ x.now) x j (ev_var hc) hj rfl ⟨ho, trivial⟩ rfl rfl
theorem ev_groups (x : Ib) (hc : ctx[i]? = some (some (rV (.ref x.a)))) (hj : ms[j]? = some (x.a, cInb K x.dx x.h x.now)) (ho : x.ok) : EvM B L (tPrR (He.ga K "Inbox") (spR K (fun _ _ => True) (fun x => rTup ((groups x.e).map rInts))) E0 (tVar i)) ctx ms (rTup ((groups x.e).map rInts)) ms :=
  ev_prM (rs := fun x : Ib => rTup ((groups x.e).map rInts)) x j (ev_var hc) hj rfl ⟨ho, trivial⟩ rfl rfl
theorem ev_rule (x : Ib) (hc : ctx[i]? = some (some (rV (.ref x.a)))) (hj : ms[j]? = some (x.a, cInb K x.dx x.h x.now)) (ho : x.ok) : EvM B L (tPrR (He.ga K "Inbox") (spR K (fun _ _ => True) (fun x => rRule K x.e.ps x.e.se)) E0 (tVar i)) ctx ms (rRule K x.e.ps x.e.se) ms :=
  ev_prM (rs := fun x : Ib => rRule K x.e.ps x.e.se) x j (ev_var hc) hj rfl ⟨ho, trivial⟩ rfl rfl
end
/-! ### the data of what is told -/
def dGrps (gs : List (List Int)) : PyData := .tuple (gs.map dNs)
theorem dat_grps {K : Fr} {gs : List (List Int)} : Dat K (rTup (gs.map rInts)) (dGrps gs) := dat_tup (paired_map fun _ _ => dat_ints)
theorem da_grps {gs : List (List Int)} : Da 2 (dGrps gs) := da_tup (da_map fun _ _ => da_ints)
theorem eqv_grps (gs hs : List (List Int)) : PyData.eqv (dGrps gs) (dGrps hs) = decide (gs = hs) := eqv_tup eqv_ints gs hs
def dPs (ps : List Pt) : PyData := .tuple (ps.map fun p => .str p.str)
theorem dat_ps {K : Fr} {ps : List Pt} : Dat K (rTup (ps.map rP)) (dPs ps) := dat_tup (paired_map fun _ _ => dat_str)
theorem pts_str : (pts.all fun p => PyData.strOk p.str) = true := by decide +kernel
theorem pt_strOk {p : Pt} (h : p.ok) : PyData.strOk p.str = true := List.all_eq_true.mp pts_str p (mem_pts h)
theorem da_ps {ps : List Pt} (h : ∀ p ∈ ps, p.ok) : Da 1 (dPs ps) := da_tup (da_map fun p hp => da_str (pt_strOk (h p hp)))
theorem eqvAll_refl : ∀ {l : List PyData}, (∀ d ∈ l, PyData.eqv d d = true) → PyData.eqvAll l l = true
  | [], _ => by simp [PyData.eqvAll]
  | d :: l, h => by
    simp only [PyData.eqvAll, h d List.mem_cons_self, eqvAll_refl (l := l) fun e he => h e (List.mem_cons_of_mem _ he), Bool.and_self]
theorem eqv_ps (ps : List Pt) : PyData.eqv (dPs ps) (dPs ps) = true := by
  unfold dPs
  simp only [PyData.eqv]
  refine eqvAll_refl fun d hd => ?_
  obtain ⟨p, _, rfl⟩ := List.mem_map.mp hd
  simp [PyData.eqv]
theorem shw_ints {ns : List Int} {n : Nat} (h : ∀ i ∈ ns, i.natAbs < 1000000000000) (hn : ns.length ≤ n) : Shw (42 * n) (dNs ns) := shw_tup (w := 41) (shw_map fun i hi => shw_int (h i hi)) (by rw [List.length_map]; exact hn)
theorem okArr.cm {a : Arr} (h : okArr a) : ∀ i ∈ a.c, i.natAbs < 1000000000000 := fun i hi => by
  have h0 := h.c0 i hi
  have h1 := (List.pairwise_append.mp h.up).2.2 i hi a.m (List.mem_singleton.mpr rfl)
  have h2 := h.m1
  omega
theorem okArr.mm {a : Arr} (h : okArr a) : a.m.natAbs < 1000000000000 := by
  have h0 := h.m0
  have h2 := h.m1
  omega
theorem marks_small {ls : List Arr} (h : okLs ls) : ∀ i ∈ marks ls, i.natAbs < 1000000000000 := fun i hi => by
  obtain ⟨a, ha, e⟩ := List.mem_map.mp (mem_marks.mp hi)
  rw [← e]
  exact (h.ok a ha).mm
theorem name_len {a : Arr} (h : okArr a) : a.w.length ≤ 8 := by
  have := h.w
  simp only [List.mem_cons, List.not_mem_nil, or_false] at this
  rcases this with e | e | e | e <;> rw [e] <;> decide +kernel
theorem shw_arr {a : Arr} (h : okArr a) : Shw 2000 (dArr a) := (shw_tup (w := 400) (n := 3) (fun d hd => by
  simp only [List.mem_cons, List.not_mem_nil, or_false] at hd
  rcases hd with rfl | rfl | rfl
  · exact (shw_int h.mm).up (by omega)
  · exact (shw_str (name_ok h) (name_len h)).up (by omega)
  · exact (shw_ints (n := 9) h.cm h.cl).up (by omega)) (by simp)).up (by omega)
theorem plc_mem {e : Ent} {m i : Int} (h : plc e m = some i) : i ∈ marks e.ls := by
  unfold plc at h
  have := List.mem_of_getLast? h
  exact of_decide_eq_true (List.mem_filter.mp this).2
theorem shw_opt {e : Ent} (h : okLs e.ls) (m : Int) : Shw 41 (oD (plc e m)) := by
  cases q : plc e m with
  | none => exact shw_non.up (by omega)
  | some i => exact shw_int (marks_small h i (plc_mem q))
theorem da_opt {o : Option Int} : Da 0 (oD o) := by
  cases o with
  | none => exact da_non
  | some i => exact da_int
end K62
set_option maxHeartbeats 4000000
/-! K62Ge: an inbox beside the law's page. -/
namespace K62
open PySem PySem.Spec PyProof.Rows L2
local macro_rules | `(tactic| walk_at "ev") => `(tactic| repeat' (first
  | ((with_reducible apply ev_var); exact rfl)
  | with_reducible exact ev_c
  | with_reducible exact ea_nil
  | with_reducible exact et_yes
  | with_reducible exact rv_I0
  | with_reducible exact eo_none
  | with_reducible apply eo_some
  | with_reducible apply ea_cons
  | with_reducible apply ev_op
  | (with_reducible apply ev_andV <;> try intro _)
  | (with_reducible apply ev_orV <;> try intro _)
  | with_reducible apply ev_notV
  | with_reducible apply ev_tup
  | with_reducible apply ev_lst
  | with_reducible apply ev_neg
  | with_reducible apply ev_cb
  | with_reducible apply et_B
  | with_reducible apply et_val
  | with_reducible apply et_not
  | (with_reducible apply et_and <;> try intro _)
  | (with_reducible apply et_or <;> try intro _)
  | with_reducible apply ev_call
  | with_reducible apply ev_fld
  | with_reducible exact cls_Cutter (by assumption)
  | with_reducible exact cls_Rule (by assumption)
  | with_reducible exact cls_Page (by assumption)
  | with_reducible exact cls_Inbox (by assumption)
  | with_reducible exact na_parts (by assumption)
  | with_reducible exact na_tables (by assumption)
  | with_reducible exact na_whole (by assumption)
  | with_reducible exact na_cutter (by assumption)
  | with_reducible exact na_sees (by assumption)
  | with_reducible exact na_rule (by assumption)
  | with_reducible exact na_pmarks (by assumption)
  | with_reducible exact na_letters (by assumption)
  | with_reducible exact na_bound (by assumption)
  | with_reducible exact na_shown (by assumption)
  | with_reducible exact na_moves (by assumption)
  | with_reducible exact na_near (by assumption)
  | with_reducible exact na_groups (by assumption)
  | with_reducible exact na_pages (by assumption)
  | with_reducible exact na_version (by assumption)
  | with_reducible exact na_marks (by assumption)
  | with_reducible exact isi_str (by assumption)
  | with_reducible exact isi_int (by assumption)
  | with_reducible exact isi_intbool (by assumption)
  | with_reducible exact isi_bool (by assumption)
  | with_reducible exact isi_tup (by assumption)
  | with_reducible exact isi_Cutter (by assumption)
  | with_reducible exact isi_Rule (by assumption)
  | with_reducible exact isi_Inbox (by assumption)
  | with_reducible exact rc_lenT
  | with_reducible exact rc_lenL
  | with_reducible apply rc_lenS
  | with_reducible exact rc_abs
  | with_reducible exact rc_max
  | with_reducible exact rc_min
  | with_reducible exact rc_int
  | with_reducible exact rc_intB
  | with_reducible exact rv_inSign
  | with_reducible exact rv_inT
  | with_reducible exact rv_inL
  | with_reducible exact rv_ninL
  | with_reducible exact rv_ixT0
  | with_reducible exact rv_ixT1
  | with_reducible exact rv_ixT2
  | with_reducible exact rv_ixT3
  | with_reducible exact rv_ixL0
  | with_reducible exact rv_ixL1
  | with_reducible exact rv_ixL2))
section
variable {B : Bs} {L : List Addr} {ctx : Ct} {ms ms1 : Ms} {tl : TA} {E : XK} {K : PySem.W.Frag}
/-- a def that reads a cell -/
theorem ev_callM {α : Type} {pre : α → List Addr → Prop} {ar : α → List Rp} {mi mo : α → Ms} {res : α → Rp} (x : α) {a : Addr} {c : Cell} (j : Nat) (h : EvA B L tl ctx ms (ar x) ms1) (hp : pre x L) (hi : mi x = [(a, c)]) (ho : mo x = [(a, c)]) (hj : ms1[j]? = some (a, c)) :
    EvM B L (tCallR (spF pre ar mi mo res) E tl) ctx ms (res x) ms1 := by
  have z := ev_call1 (res := res) (E := E) x j h hp hi ho hj
  rw [set_same hj] at z
  exact z
def dHead (e : Ent) : PyData := .list [dNs (marks e.ls), .int ((e.ls.length : Nat) : Int)]
theorem dat_head {e : Ent} : Dat K (rLst [rInts (marks e.ls), rN_ e.ls.length]) (dHead e) := dat_lst (.cons dat_ints (.cons dat_int .nil))
theorem da_head {e : Ent} : Da 2 (dHead e) := da_lst fun d hd => by
  simp only [List.mem_cons, List.not_mem_nil, or_false] at hd
  rcases hd with rfl | rfl
  · exact da_ints
  · exact da_int.up (by omega)
theorem shw_head {e : Ent} (h : okLs e.ls) : Shw 2000 (dHead e) := (shw_lst (w := 600) (n := 2) (fun d hd => by
  simp only [List.mem_cons, List.not_mem_nil, or_false] at hd
  rcases hd with rfl | rfl
  · exact (shw_ints (n := 12) (marks_small h) (okLs_small h)).up (by omega)
  · have := h.len
    exact (shw_int (i := ((e.ls.length : Nat) : Int)) (by omega)).up (by omega)) (by simp)).up (by omega)
theorem neS {s : Str} : (!decide (V.str s = V.str s)) = false := by simp
end
section
variable {P : Program} {w : World} {K : PySem.W.Frag} {mg : Str → Option Value} {base : Heap}
theorem rc_headR {B : Bs} {L : List Addr} {ctx : Ct} {ms : Ms} {e : Ent} (h : okLs e.ls) : RcM B L (rRepr K) [rLst [rInts (marks e.ls), rN_ e.ls.length]] ctx ms (rS (dHead e).shown) ms := rc_repr (w := 2000) dat_head da_head (shw_head h) (by omega) (by omega)
theorem rc_boolR {B : Bs} {L : List Addr} {ctx : Ct} {ms : Ms} {b : Bool} : RcM B L (rRepr K) [rB b] ctx ms (rS (PyData.bool b).shown) ms := rc_repr (w := 0) dat_bl da_bl shw_bool (by omega) (by omega)
theorem rc_natR {B : Bs} {L : List Addr} {ctx : Ct} {ms : Ms} {n : Nat} (h : n ≤ 1000) : RcM B L (rRepr K) [rN_ n] ctx ms (rS (PyData.int ((n : Nat) : Int)).shown) ms := rc_repr (w := 41) dat_int da_int (shw_int (by omega)) (by omega) (by omega)
theorem rc_arrR {B : Bs} {L : List Addr} {ctx : Ct} {ms : Ms} {a : Arr} (h : okArr a) : RcM B L (rRepr K) [rArr a] ctx ms (rS (dArr a).shown) ms := rc_repr (w := 2000) dat_arr (da_arr h) (shw_arr h) (by omega) (by omega)
theorem rc_optR {B : Bs} {L : List Addr} {ctx : Ct} {ms : Ms} {e : Ent} (h : okLs e.ls) (m : Int) : RcM B L (rRepr K) [rOpt (plc e m)] ctx ms (rS (oD (plc e m)).shown) ms := rc_repr (w := 41) dat_opt da_opt (shw_opt h m) (by omega) (by omega)
theorem rv_neGrps {B : Bs} {L : List Addr} {ctx : Ct} {ms : Ms} {gs : List (List Int)} : RvM B L (rNeD K) (rTup (gs.map rInts)) (rTup (gs.map rInts)) ctx ms (rB false) ms := by
  have z := rv_neD (K := K) (B := B) (L := L) (ctx := ctx) (ms := ms) (dat_grps (gs := gs)) (dat_grps (gs := gs)) (da_grps.shaped (by omega)) (da_grps.shaped (by omega))
  rw [eqv_grps, decide_eq_true rfl] at z
  exact z
theorem rv_nePs {B : Bs} {L : List Addr} {ctx : Ct} {ms : Ms} {ps : List Pt} (h : ∀ p ∈ ps, p.ok) : RvM B L (rNeD K) (rTup (ps.map rP)) (rTup (ps.map rP)) ctx ms (rB false) ms := by
  have z := rv_neD (K := K) (B := B) (L := L) (ctx := ctx) (ms := ms) (dat_ps (ps := ps)) (dat_ps (ps := ps)) ((da_ps h).shaped (by omega)) ((da_ps h).shaped (by omega))
  rw [eqv_ps] at z
  exact z
theorem rv_neSame {B : Bs} {L : List Addr} {ctx : Ct} {ms : Ms} {ns : List Int} : RvM B L (rNeD K) (rInts ns) (rInts ns) ctx ms (rB false) ms := by
  have z := rv_neInts (K := K) (B := B) (L := L) (ctx := ctx) (ms := ms) (ns := ns) (ms' := ns)
  rw [decide_eq_true rfl] at z
  exact z
theorem rv_neStr {B : Bs} {L : List Addr} {ctx : Ct} {ms : Ms} {s : Str} : RvM B L rNe (rS s) (rS s) ctx ms (rB false) ms := by
  have z := rv_ne (B := B) (L := L) (ctx := ctx) (ms := ms) (x := V.str s) (y := V.str s) rfl
  rw [neS] at z
  exact z
theorem rv_neNat {B : Bs} {L : List Addr} {ctx : Ct} {ms : Ms} {n : Nat} : RvM B L rNe (rN_ n) (rN_ n) ctx ms (rB false) ms := by
  have z := rv_ne (B := B) (L := L) (ctx := ctx) (ms := ms) (x := V.int n) (y := V.int n) rfl
  rw [decide_eq_true rfl] at z
  exact z
noncomputable abbrev spIsPage (K : Fr) : Sp := spF (fun (x : Ib) L => x.ok ∧ L = []) (fun x => [rV (.ref x.a), rLst (x.e.ps.map rP), rB x.e.se, rLet x.e.ls]) (fun x => x.c K) (fun x => x.c K) (fun _ => rB true)
theorem sc_law_is_page : FnScope ["_law_inbox", "_law_parts_here", "_law_sees", "_law_letters", "_law_rows_here", "_law_mark", "_law_bound", "_law_places", "_law_groups_here", "_law_marks", "_law_one"] ["_law_inbox", "_law_parts_here", "_law_sees", "_law_letters"] (defScope s_law_is_page) := ⟨rfl, rfl, rfl, by decide +kernel, rfl, by decide +kernel, by decide +kernel⟩
theorem cl_law_is_page (T : Tx P w K mg base) : ClQ P w K mg base 7 "_law_is_page" (spIsPage K) := by
  obtain ⟨fd, F⟩ := T.def_ di_law_is_page
  refine ⟨_, T.glo fi_glo_law_is_page, F.kp, fnQ_of F sc_law_is_page (fun _ => rfl) (fun _ _ _ _ _ _ us hl => match us, hl with | [_, _, _, _], _ => rfl) fun cdv A outer s H0 vs Q E hr hg x L G hp k S => ?_⟩
  have c_law_page := cl_law_page T
  have p_Inbox_marks := pp_Inbox_marks T
  have p_Inbox_groups := pp_Inbox_groups T
  have p_Inbox_rule := pp_Inbox_rule T
  have p_Cutter_parts := pp_Cutter_parts T
  have p_Rule_cutter := pp_Rule_cutter T
  have p_Rule_sees_lost := pp_Rule_sees_lost T
  have o_Inbox_len := ow_Inbox_len T
  have o_Inbox_str := ow_Inbox_str T
  have o_Inbox_contains := ow_Inbox_contains T
  have o_Inbox_getitem := ow_Inbox_getitem T
  have m_Inbox_shown := mt_Inbox_shown T
  have m_Inbox_below := mt_Inbox_below T
  obtain ⟨ho, rfl⟩ := hp
  have he := ho.e
  have hnd := he.ls.nd
  have h12 := okLs_small he.ls
  have hl12 := he.ls.len
  have hml : (x.e.ls.map (·.m)).length ≤ 12 := by rw [List.length_map]; exact hl12
  refine ⟨_, (pss_cons (ps_set (i := 4) sc_law_is_page.nd rfl (Or.inl rfl) (pe_callTy (T := "dict") (call_dictPK (K := K) rfl) (by rfl) (T.free fi_free_dict) (by decide +kernel) (pa_cons (pe_lock (pe_lc (own := [("_law_mark", 5)]) rfl sc_law_is_page.nd (pi_keys (pv 3)) (blkOk_by (own := [("_law_mark", 5)]) (N := ["_law_inbox", "_law_parts_here", "_law_sees", "_law_letters", "_law_rows_here", "_law_mark", "_law_bound", "_law_places", "_law_groups_here", "_law_marks", "_law_one"]) (sc := defScope s_law_is_page) (by decide +kernel)) (fun _ _ _ _ _ => (pg_name (i := 5) sc_law_is_page.nd rfl (Or.inl rfl) (Or.inr rfl))) (fun _ _ _ _ _ => pts_nil) (fun _ _ _ _ _ => (pe_tup (pa_cons (pv 5) (pa_cons (pe_ix (ix_tupK (K := K)) (pe_dget (hu_of hr) (pv 3) (pv 5) (fun _ _ => rfl)) pe_int (fun _ _ => rfl)) pa_nil)))))) pa_nil)))
    (pss_cons (ps_asg (pe_callR c_law_page hr (by decide) (by rfl) (pa_cons (pv 1) (pa_cons (pv 2) (pa_cons (pv 4) pa_nil)))) (pg_unlK (K := K) (n := 3) rfl (pgs_cons (pg_name (i := 6) sc_law_is_page.nd rfl (Or.inl rfl)) (pgs_cons (pg_name (i := 7) sc_law_is_page.nd rfl (Or.inr rfl)) (pgs_cons (pg_name (i := 8) sc_law_is_page.nd rfl (Or.inl rfl)) pgs_nil)))))
    (pss_cons (ps_set (i := 9) sc_law_is_page.nd rfl (Or.inl rfl) (pe_callB (id := "sorted") (call_sortedDI rfl) (by rfl) (T.free fi_free_sorted) (by decide +kernel) (pa_cons (pv 3) pa_nil)))
    (pss_cons (ps_if (pt_cmpR op_ne (pe_callB (id := "repr") (call_reprK (K := K) hr.units hg) (by rfl) (T.free fi_free_repr) (by decide +kernel) (pa_cons (pe_lst (pa_cons (pe_pp (T.cls fi_cls_Inbox) p_Inbox_marks hr (by decide) (pv 0)) (pa_cons (pe_callB (id := "len") (call_len_ o_Inbox_len hr (by decide)) (by rfl) (T.free fi_free_len) (by decide +kernel) (pa_cons (pv 0) pa_nil)) pa_nil))) pa_nil)) (pe_callB (id := "repr") (call_reprK (K := K) hr.units hg) (by rfl) (T.free fi_free_repr) (by decide +kernel) (pa_cons (pe_lst (pa_cons (pe_tupleK (K := K) (by rfl) (T.free fi_free_tuple) (pv 9)) (pa_cons (pe_callB (id := "len") (call_lenK (K := K)) (by rfl) (T.free fi_free_len) (by decide +kernel) (pa_cons (pv 9) pa_nil)) pa_nil))) pa_nil)) (nomark _)) (pss_one (ps_ret pe_bl)) pss_nil)
    (pss_cons (ps_if (PW.pt (pw_or (pt_cmpR (op_neDK (K := K) hr.units) (pe_pp (T.cls fi_cls_Inbox) p_Inbox_groups hr (by decide) (pv 0)) (pe_tupleK (K := K) (by rfl) (T.free fi_free_tuple) (pv 8)) (nomark _)) (pw_or1 (pt_cmpR op_ne (pe_callTy (T := "str") (call_str_ o_Inbox_str hr (by decide)) (by rfl) (T.free fi_free_str) (by decide +kernel) (pa_cons (pv 0) pa_nil)) (pe_joined (PJ.cons pe_str (PJ.cons (pe_fmt (pe_callB (id := "len") (call_lenK (K := K)) (by rfl) (T.free fi_free_len) (by decide +kernel) (pa_cons (pv 9) pa_nil))) (PJ.cons pe_str (PJ.cons (pe_fmt (pe_callB (id := "len") (call_lenK (K := K)) (by rfl) (T.free fi_free_len) (by decide +kernel) (pa_cons (pv 8) pa_nil))) (PJ.cons pe_str PJ.nil)))))) (nomark _))))) (pss_one (ps_ret pe_bl)) pss_nil)
    (pss_cons (ps_if (PW.pt (pw_or (pt_cmpR (op_neDK (K := K) hr.units) (pe_pp (T.cls fi_cls_Cutter) p_Cutter_parts hr (by decide) (pe_pp (T.cls fi_cls_Rule) p_Rule_cutter hr (by decide) (pe_pp (T.cls fi_cls_Inbox) p_Inbox_rule hr (by decide) (pv 0)))) (pe_tupleK (K := K) (by rfl) (T.free fi_free_tuple) (pv 1)) (nomark _)) (pw_or1 (pt_cmpR op_ne (pe_callB (id := "repr") (call_reprK (K := K) hr.units hg) (by rfl) (T.free fi_free_repr) (by decide +kernel) (pa_cons (pe_pp (T.cls fi_cls_Rule) p_Rule_sees_lost hr (by decide) (pe_pp (T.cls fi_cls_Inbox) p_Inbox_rule hr (by decide) (pv 0))) pa_nil)) (pe_callB (id := "repr") (call_reprK (K := K) hr.units hg) (by rfl) (T.free fi_free_repr) (by decide +kernel) (pa_cons (pv 2) pa_nil)) (nomark _))))) (pss_one (ps_ret pe_bl)) pss_nil)
    (pss_cons (ps_for PassesOwn.never rfl (pi_listK (K := K) (pv 9)) (pg_name (i := 5) sc_law_is_page.nd rfl (Or.inr rfl))
      (pss_cons (ps_if (PW.pt (pw_or (pt_cmpR (op_notIn_ o_Inbox_contains hr (by decide)) (pv 5) (pv 0) (by rfl)) (pw_or1 (pt_cmpR op_ne (pe_callB (id := "repr") (call_reprK (K := K) hr.units hg) (by rfl) (T.free fi_free_repr) (by decide +kernel) (pa_cons (pe_sub_ o_Inbox_getitem hr (by decide) (pv 0) (pv 5)) pa_nil)) (pe_callB (id := "repr") (call_reprK (K := K) hr.units hg) (by rfl) (T.free fi_free_repr) (by decide +kernel) (pa_cons (pe_dget (hu_of hr) (pv 3) (pv 5) (fun _ _ => rfl)) pa_nil)) (nomark _))))) (pss_one (ps_ret pe_bl)) pss_nil)
    (pss_cons (ps_if (pt_cmpR op_ne (pe_callB (id := "repr") (call_reprK (K := K) hr.units hg) (by rfl) (T.free fi_free_repr) (by decide +kernel) (pa_cons (pe_mt (T.cls fi_cls_Inbox) m_Inbox_shown hr (by decide) (pv 0) (pa_cons (pv 5) pa_nil)) pa_nil)) (pe_callB (id := "repr") (call_reprK (K := K) hr.units hg) (by rfl) (T.free fi_free_repr) (by decide +kernel) (pa_cons (pe_dget (hu_of hr) (pv 7) (pv 5) (fun _ _ => rfl)) pa_nil)) (nomark _)) (pss_one (ps_ret pe_bl)) pss_nil)
    (pss_one (ps_if (pt_cmpR (op_neDK (K := K) hr.units) (pe_mt (T.cls fi_cls_Inbox) m_Inbox_below hr (by decide) (pv 0) (pa_cons (pv 5) pa_nil)) (pe_tupleK (K := K) (by rfl) (T.free fi_free_tuple) (pe_lc (own := [("_law_one", 10)]) rfl sc_law_is_page.nd (pi_listK (K := K) (pv 9)) (blkOk_by (own := [("_law_one", 10)]) (N := ["_law_inbox", "_law_parts_here", "_law_sees", "_law_letters", "_law_rows_here", "_law_mark", "_law_bound", "_law_places", "_law_groups_here", "_law_marks", "_law_one"]) (sc := defScope s_law_is_page) (by decide +kernel)) (fun _ _ _ _ _ => (pg_name (i := 10) sc_law_is_page.nd rfl (Or.inl rfl) (Or.inr rfl))) (fun _ _ _ _ _ => (pts_one (pt_cmpR op_eq (pe_dget (hu_of hr) (pv 7) (pv 10) (fun _ _ => rfl)) (pv 5) (nomark _)))) (fun _ _ _ _ _ => (pv 10)))) (nomark _)) (pss_one (ps_ret pe_bl)) pss_nil)))))
    (pss_one (ps_ret pe_bl))))))))), ?_⟩
  try dsimp only [L2.cxOf]
  refine st_setP (i := 4) (rDct (x.e.ls.map fun (a : Arr) => (a.m, rInts a.c))) ?_ S fun σ1 G1 H1 e1 S1 => ?_
  · refine ev_cb (ea_cons (ev_lock (turns_slot (i := 3) (r := rLet x.e.ls) (r' := fun d => rDctAt d (x.e.ls.map fun a => (a.m, rArr a))) rfl fun v G h => rDct_at h) (ms1' := fun _ => x.c K) (r := rLst ((x.e.ls.map fun (a : Arr) => (a.m, rInts a.c)).map fun p => rTup [rI p.1, p.2])) (fun d B => ?_) (fun {B σ G H} d S => ?_)) ea_nil) (rc_dictN ?_)
    · refine ev_is (ev_lcA x.e.ls (f := fun a => rI a.m) (e := fun a => rTup [rI a.m, rInts a.c]) (ei_is (ei_keys (ev_var rfl)) (by rw [List.map_map]; rfl)) (by omega) (fun a ha => gm_name (by simp)) fun a ha B => ?_) (by rw [List.map_map]; rfl)
      exact ev_tup (ea_cons (ev_var rfl) (ea_cons (ev_op (ev_dget (r := rArr a) (ev_imp (ev_var rfl) fun v G h => rDctAt_to h) (ev_var rfl) (lookA (f := rArr) hnd ha)) ev_c rv_ixT2) ea_nil)) (by simp)
    · exact S.turn (i := 3) rfl fun v h => rDctAt_to h
    · rw [List.map_map]; exact hnd
  dsimp only
  refine st_unp (ms1 := x.c K) (ev_call x.e (ea_cons (ev_var rfl) (ea_cons (ev_var rfl) (ea_cons (ev_var rfl) ea_nil))) he) (gm_lst3 (vs := [6, 7, 8]) (by simp) (by simp) (by simp)) S1 fun σ2 G2 H2 e2 S2 => ?_
  dsimp only
  refine st_setP (i := 9) (rLst ((marks x.e.ls).map rI)) ?_ S2 fun σ3 G3 H3 e3 S3 => ?_
  · refine ev_imp (ev_cb (ea_cons (ev_is (ev_var rfl) (congrArg rDct (by_marks (f := rArr) hnd))) ea_nil) (rc_sortedD (by omega))) fun v G ⟨ns, ⟨p1, p2⟩, hv⟩ => ?_
    rw [marks_uniq p1 p2] at hv
    exact hv
  dsimp only
  refine st_ifFP (et_val (ev_op (ev_cb (ea_cons (ev_lst (ea_cons (ev_marks x (i := 0) (j := 0) rfl rfl ho) (ea_cons (ev_cb (ea_cons (ev_var rfl) ea_nil) (rc_lenI x (j := 0) rfl ho)) ea_nil)) (by simp)) ea_nil) (rc_headR he.ls))
    (ev_cb (ea_cons (ev_lst (ea_cons (ev_tupOfL (ev_var rfl)) (ea_cons (ev_is (r2 := rN_ x.e.ls.length) (ev_cb (ea_cons (ev_var rfl) ea_nil) rc_lenL) (by rw [List.length_map, marks_length])) ea_nil)) (by simp)) ea_nil) (rc_headR he.ls)) rv_neStr)) S3 fun G4 H4 e4 S4 => ?_
  dsimp only [tNext]
  refine st_ifFP (et_b (b := false || false) (et_or (et_val (ev_op (ev_groups x (i := 0) (j := 0) rfl rfl ho) (ev_tupOfL (ev_var rfl)) rv_neGrps)) fun _ => et_val (ev_op (ev_cb (ea_cons (ev_var rfl) ea_nil) (rc_strI x (j := 0) rfl ho))
    (ev_shS (ev_is (ev_cb (ea_cons (ev_var rfl) ea_nil) rc_lenL) (by rw [List.length_map, marks_length])) (ev_is (ev_cb (ea_cons (ev_var rfl) ea_nil) rc_lenL) (by rw [List.length_map])) hl12 (groups_le he.ls)) rv_neStr)) rfl) S4 fun G5 H5 e5 S5 => ?_
  dsimp only [tNext]
  refine st_ifFP (et_b (b := false || false) (et_or (et_val (ev_op (ev_pr (fs := cutF K x.e.ps) x.e.ps (ev_pr (fs := ruleF K (x.e.ps, x.e.se)) (x.e.ps, x.e.se) (ev_rule x (i := 0) (j := 0) rfl rfl ho) rfl trivial) rfl trivial) (ev_tupOfL (ev_var rfl)) (rv_nePs he.ps.1))) fun _ => et_val (ev_op (ev_cb (ea_cons (ev_pr (fs := ruleF K (x.e.ps, x.e.se)) (x.e.ps, x.e.se) (ev_rule x (i := 0) (j := 0) rfl rfl ho) rfl trivial) ea_nil) rc_boolR) (ev_cb (ea_cons (ev_var rfl) ea_nil) rc_boolR) rv_neStr)) rfl) S5 fun G6 H6 e6 S6 => ?_
  dsimp only [tNext]
  refine st_for (ι := Unit) (ei_list (ev_var rfl)) S6 (fun _ _ => True) (fun _ => [some (rV (.ref x.a)), some (rLst (x.e.ps.map rP)), some (rB x.e.se), some (rLet x.e.ls), some (rDct (x.e.ls.map fun (a : Arr) => (a.m, rInts a.c))), none, some (rBd (marks x.e.ls) (bd x.e)), some (rPlaces x.e), some (rLst ((groups x.e).map rInts)), some (rLst ((marks x.e.ls).map rI)), none]) (fun _ => x.c K) () trivial (fun B σ G H S => S) (fun B1 G7 H7 i r u σ8 G8 H8 e7 hr0 _ e8 hl un sm S8 => ?_) (fun u σ8 G8 H8 _ e7 S8 => ?_)
  · rw [List.getElem?_map] at hr0
    cases hq : (marks x.e.ls)[i]? with
    | none => rw [hq] at hr0; cases hr0
    | some m =>
      rw [hq] at hr0
      cases hr0
      have hm : m ∈ marks x.e.ls := List.mem_of_getElem? hq
      obtain ⟨a1, a2⟩ := arrOf_in (mem_marks.mp hm)
      have lk : lookI m (x.e.ls.map fun a => (a.m, rArr a)) = some (rArr (arrOf x.e.ls m)) := by
        have z := lookA (f := rArr) hnd a1
        rw [a2] at z
        exact z
      refine ⟨_, [5], gm_name (by simp), fun σ9 G9 H9 e9 S9 => ?_⟩
      refine st_ifFP (et_b (b := !decide (m ∈ marks x.e.ls) || false) (et_or (et_val (ev_op (ev_var rfl) (ev_var rfl) (rv_ninI x m (j := 0) rfl ho (mark_pos he hm)))) fun _ => et_val (ev_op (ev_cb (ea_cons (ev_item x m (i := 0) (j := 0) rfl (ev_var rfl) rfl ho hm) ea_nil) (rc_arrR (he.ls.ok _ a1))) (ev_cb (ea_cons (ev_dget (ev_var rfl) (ev_var rfl) lk) ea_nil) (rc_arrR (he.ls.ok _ a1))) rv_neStr)) (by rw [decide_eq_true hm]; rfl)) S9 fun G10 H10 e10 S10 => ?_
      dsimp only [tNext]
      refine st_ifFP (et_val (ev_op (ev_cb (ea_cons (ev_shown x m (i := 0) (j := 0) rfl (ea_cons (ev_var rfl) ea_nil) rfl ho hm) ea_nil) (rc_optR he.ls m)) (ev_cb (ea_cons (ev_dget (ev_var rfl) (ev_var rfl) (look_fn (f := fun m => rOpt (plc x.e m)) hm)) ea_nil) (rc_optR he.ls m)) rv_neStr)) S10 fun G11 H11 e11 S11 => ?_
      dsimp only [tNext]
      refine st_ifFP (et_val (ev_op (ev_below x m (i := 0) (j := 0) rfl (ea_cons (ev_var rfl) ea_nil) rfl ho hm) (ev_tupOfL (ev_lc (marks x.e.ls) (f := rI) (e := rI) (b := fun y => decide (plc x.e y = some m)) (ei_list (ev_var rfl)) (by omega) (fun y hy => gm_name (by simp)) (fun y hy B => et_b (et_val (ev_op (ev_dget (ev_var rfl) (ev_var rfl) (look_fn (f := fun m => rOpt (plc x.e m)) hy)) (ev_var rfl) (rv_eq (oV_scal (plc x.e y) (some m))))) (oV_some _ _)) fun y hy hb B => ev_var rfl)) rv_neSame)) S11 fun G12 H12 e12 S12 => ?_
      exact ⟨(), G12, trivial, S12.weak (by repeat' constructor)⟩
  · dsimp only
    exact st_retP (rB true) ev_c S8 fun v G' H' e S' hv => k _ _ G' H' S' v hv
theorem cutRs_3 {a b c d : Rp} : cutRs [a, b, c, d] none (some 3) = [a, b, c] := rfl
theorem rv_nilNil {B : Bs} {L : List Addr} {ctx : Ct} {ms : Ms} : RvM B L (rEqD K) (rLst []) (rLst []) ctx ms (rB true) ms := rv_eqNilA (As := []) (by simp)
theorem hist_i {h : List Ent} {n : Nat} (hn : n < h.length) : (h.map rEnt)[n]? = some (rEnt (atE h n)) := by
  rw [List.getElem?_map, List.getElem?_eq_getElem hn]
  simp [atE, List.getD, List.getElem?_eq_getElem hn]
/-- h[n][:3] -/
theorem ev_head {B : Bs} {L : List Addr} {ctx : Ct} {ms : Ms} {h : List Ent} {n i j : Nat} (h1 : ctx[i]? = some (some (rHist h))) (h2 : ctx[j]? = some (some (rN_ n))) (hn : n < h.length) :
    EvM B L (tSl (rSlA K) (tOp (rIxL K) (tVar i) (tVar j)) tNoPart (tPart (tC (.int 3)))) ctx ms (rTup [rLst ((atE h n).ps.map rP), rB (atE h n).se, rLet (atE h n).ls]) ms :=
  ev_is (ev_slT (ev_is (r2 := rTup [rLst ((atE h n).ps.map rP), rB (atE h n).se, rLet (atE h n).ls, rDct ((marks (atE h n).ls).map fun m => (m, rOpt (plc (atE h n) m)))]) (ev_op (ev_var h1) (ev_var h2) (rv_ixL (k := n) rfl (hist_i hn))) rfl) eo_none (eo_some ev_c)) rfl
theorem nf (ls : List Arr) : (ls.filter fun _ => false).map (fun a => rI a.m) = [] := by
  have z : (ls.filter fun _ => false) = [] := List.filter_eq_nil_iff.mpr fun _ _ => Bool.false_ne_true
  rw [z]; rfl
noncomputable abbrev spIs (K : Fr) : Sp := spF (fun (x : Ib) L => x.ok ∧ L = []) (fun x => [rV (.ref x.a), rHist x.h, rN_ x.now]) (fun x => x.c K) (fun x => x.c K) (fun _ => rB true)
theorem sc_law_is : FnScope ["_law_inbox", "_law_history", "_law_now", "_law_parts_here", "_law_sees", "_law_letters", "_law_mark"] ["_law_inbox", "_law_history", "_law_now"] (defScope s_law_is) := ⟨rfl, rfl, rfl, by decide +kernel, rfl, by decide +kernel, by decide +kernel⟩
theorem cl_law_is (T : Tx P w K mg base) : ClQ P w K mg base 8 "_law_is" (spIs K) := by
  obtain ⟨fd, F⟩ := T.def_ di_law_is
  refine ⟨_, T.glo fi_glo_law_is, F.kp, fnQ_of F sc_law_is (fun _ => rfl) (fun _ _ _ _ _ _ us hl => match us, hl with | [_, _, _], _ => rfl) fun cdv A outer s H0 vs Q E hr hg x L G hp k S => ?_⟩
  have c_law_is_page := cl_law_is_page T
  have c_law_moves := cl_law_moves T
  have p_Inbox_version := pp_Inbox_version T
  have m_Inbox_moves := mt_Inbox_moves T
  obtain ⟨ho, rfl⟩ := hp
  have he := ho.e
  have hnd := he.ls.nd
  have h12 := okLs_small he.ls
  have hl12 := he.ls.len
  have hv : x.now < x.h.length := ho.2
  have h40 := ho.1.len
  refine ⟨_, (pss_cons (ps_asg (pe_slice (sl_tupK (K := K)) (pe_ix (ix_listK (K := K)) (pv 1) (pv 2) (fun _ _ => rfl)) po_none (po_some pe_int)) (pg_tupK (K := K) (n := 3) rfl (pgs_cons (pg_name (i := 3) sc_law_is.nd rfl (Or.inl rfl)) (pgs_cons (pg_name (i := 4) sc_law_is.nd rfl (Or.inl rfl)) (pgs_cons (pg_name (i := 5) sc_law_is.nd rfl (Or.inl rfl)) pgs_nil)))))
    (pss_cons (ps_if (PW.pt (pw_or (pt_cmpR op_ne (pe_pp (T.cls fi_cls_Inbox) p_Inbox_version hr (by decide) (pv 0)) (pv 2) (nomark _)) (pw_or1 (pt_not (pt_val (pe_callQ c_law_is_page hg hr (by decide) (by rfl) (pa_cons (pv 0) (pa_cons (pv 3) (pa_cons (pv 4) (pa_cons (pv 5) pa_nil)))))))))) (pss_one (ps_ret pe_bl)) pss_nil)
    (pss_one (ps_ret (pe_cmpR (op_eqDK (K := K) hr.units) (pe_lock (pe_lc (own := [("_law_mark", 6)]) rfl sc_law_is.nd (pi_keys (pv 5)) (blkOk_by (own := [("_law_mark", 6)]) (N := ["_law_inbox", "_law_history", "_law_now", "_law_parts_here", "_law_sees", "_law_letters", "_law_mark"]) (sc := defScope s_law_is) (by decide +kernel)) (fun _ _ _ _ _ => (pg_name (i := 6) sc_law_is.nd rfl (Or.inl rfl) (Or.inr rfl))) (fun _ _ _ _ _ => (pts_one (pt_cmpR op_ne (pe_mt (T.cls fi_cls_Inbox) m_Inbox_moves hr (by decide) (pv 0) (pa_cons (pv 6) pa_nil)) (pe_callR c_law_moves hr (by decide) (by rfl) (pa_cons (pe_slice (sl_listK (K := K)) (pv 1) po_none (po_some (pe_op op_add (pv 2) pe_int))) (pa_cons (pv 6) pa_nil))) (nomark _)))) (fun _ _ _ _ _ => (pv 6)))) (pe_lst pa_nil) (nomark _)))))), ?_⟩
  try dsimp only [L2.cxOf]
  refine st_unp (ms1 := x.c K) (ev_head (h := x.h) (n := x.now) (i := 1) (j := 2) rfl rfl hv) (gm_tup3 (vs := [3, 4, 5]) (by simp) (by simp) (by simp)) S fun σ1 G1 H1 e1 S1 => ?_
  dsimp only
  refine st_ifFP (et_b (b := false || !true) (et_or (et_val (ev_op (ev_version x (i := 0) (j := 0) rfl rfl ho) (ev_var rfl) rv_neNat)) fun _ => et_not (et_B (ev_callM (res := fun _ => rB true) x 0 (ea_cons (ev_var rfl) (ea_cons (ev_var rfl) (ea_cons (ev_var rfl) (ea_cons (ev_var rfl) ea_nil)))) ⟨ho, rfl⟩ rfl rfl rfl))) rfl) S1 fun G2 H2 e2 S2 => ?_
  dsimp only [tNext]
  refine st_retP (rB true) ?_ S2 fun v G' H' e S' hv => k _ _ G' H' S' v hv
  refine ev_op (r1 := rLst []) (ev_lock (turns_slot (i := 5) (r := rLet x.e.ls) (r' := fun d => rDctAt d (x.e.ls.map fun a => (a.m, rArr a))) rfl fun v G h => rDct_at h) (ms1' := fun _ => x.c K) (fun d B => ?_) (fun {B σ G H} d S => S.turn (i := 5) rfl fun v h => rDctAt_to h)) ev_nil rv_nilNil
  refine ev_is (ev_lc x.e.ls (f := fun a => rI a.m) (e := fun a => rI a.m) (b := fun _ => false) (ei_is (ei_keys (ev_var rfl)) (by rw [List.map_map]; rfl)) (by omega) (fun a ha => gm_name (by simp)) (fun a ha B => ?_) fun a ha hb => nomatch hb) (congrArg rLst (nf x.e.ls))
  have hm : a.m ∈ marks x.e.ls := mem_marks.mpr (List.mem_map.mpr ⟨a, ha, rfl⟩)
  refine et_val (ev_op (ev_moves x a.m (i := 0) (j := 0) rfl (ea_cons (ev_var rfl) ea_nil) rfl ho hm) (ev_call (x.h.take (x.now + 1), a.m) (ea_cons (ev_is (ev_slL (ev_var rfl) eo_none (eo_some (ev_op (ev_var rfl) ev_c rv_I0))) ?_) (ea_cons (ev_var rfl) ea_nil)) ?_) rv_neNat)
  · refine congrArg rLst ((cutRs_to (k := x.now + 1) ?_).trans List.map_take.symm)
    rw [List.length_map]
    omega
  · show (x.h.take (x.now + 1)).length ≤ 100
    rw [List.length_take]
    omega
end
end K62
set_option maxHeartbeats 4000000
/-! K62Gf: what a deed needs. -/
namespace K62
open PySem PySem.Spec PyProof.Rows L2
/-- .. and this holds -/
def rIf (p : Prop) (r : Rp) : Rp := ⟨fun v G => p ∧ r.ok v G, fun e h => ⟨h.1, r.mono e h.2⟩⟩
section
variable {P : Program} {w : World} {K : PySem.W.Frag} {mg : Str → Option Value} {base : Heap}
/-- a def that shows data, and draws -/
theorem fnQE_of {α β : Type} {pre : α → List Addr → Prop} {ar : α → List Rp} {mi : α → Ms} {mo : α → β → Ms} {res : α → β → Rp} {x qual : Str} {params : Arguments} {body : List Stmt} {scope : Scope} {kws : List (Str × V)} {f : Addr} {fd : FuncData} {N ps : List Str} {k : Nat}
    (F : FunD K x qual params body scope [] kws f fd) (S : FnScope N ps scope) (hl : ∀ x, (ar x).length = ps.length)
    (hb : ∀ (kV doc pm : Value) (an : Option Addr) (cdv ct : Value) (us : List Value), us.length = ps.length → bindArgs (PySem.W.fnOf x qual params body scope .none kV doc pm an cdv ct) ⟨us, []⟩ = pure (ps.zip us))
    (hbody : ∀ (cdv : Value) (A : Around) (outer : List Env) (s : Shared) (H0 : Hp) (vs : List V) (Q : VK) (E : XK), Room k (A.deeper (envOfC qual scope s.heap.objs.size f cdv)) → (A.deeper (envOfC qual scope s.heap.objs.size f cdv)).guards = some [] → ∀ (z : α) (L : List Addr) (G : Hp), pre z L →
      (∀ b ctx σ G' H', Sx ⟨(mi z).map (·.1), G, H0⟩ L ctx (mo z b) σ G' H' → ∀ v, (res z b).ok v G' → Q v H') →
      Sx ⟨(mi z).map (·.1), G, H0⟩ L ((ar z).map some ++ List.replicate (N.length - (ar z).length) none) (mi z) (L2.start N vs) G H0 →
      ∃ t, PSs (cxOf CX0 P w K mg base N qual scope f cdv A outer s H0 E).nox body t ∧ t { nx := fun _ H' => Q .non H', rt := Q } (L2.start N vs) H0) :
    FnQ P w K mg base (k + 1) f (spE pre ar mi mo res) := by
  obtain ⟨oc, od, dV, kV, doc, pm, an, cdv, ct, osl, rfl, lk, hcd, hD, hK⟩ := F.ex
  rcases hD with ⟨_, rfl⟩ | ⟨e, _⟩
  · intro A outer s H us vs Q E hgd hr e0 r hsp
    obtain ⟨z, L, hp, G, x, hal, m, kk⟩ := hsp
    have hlen : us.length = ps.length := by rw [← r.length, ← hal.len, hl]
    refine StX.run_bnd lk hcd S hr e0 (G := fun xs H2 => xs = vs ∧ H2 = H) (fun A' Ex Q' h => ?_) fun s2 H2 xs ⟨ex, eH⟩ hr' => ?_
    · rw [hb kV doc pm an cdv ct us hlen]
      exact wpAny_pure (h s H vs us e0 Un.refl rfl (fun _ _ z => z) r (by rw [r.length, hlen]) ⟨rfl, rfl⟩)
    · subst ex eH
      obtain ⟨t, h1, h2⟩ := hbody cdv A outer s2 H2 xs Q E hr' hgd z L G hp (fun b ctx σ G' H' S' v hv => kk b v G' H' S'.stp S'.ex S'.mem (fun p hp => S'.own p hp) hv) (sx_start x hal m)
      exact ⟨t, h1.nox, h2⟩
  · exact absurd rfl e
end
section
variable {B : Bs} {L : List Addr} {ctx : Ct} {ms ms1 ms2 : Ms} {te ta tb : TE} {tl tk : TA} {K : PySem.W.Frag} {E : XK} {D : Ends} {σ : L2.St} {G H : Hp} {Q : VK}
/-- list(d.items()) -/
theorem ev_listItems {ks : List (Int × Rp)} (h : EvM B [] te ctx ms (rDct ks) ms1) : EvM B [] (LiI.tListItems te) ctx ms (rLst (ks.map fun p => rTup [rI p.1, p.2])) ms1 := fun σ G H S Q k => h σ G H S _ fun v G1 H1 e1 S1 ⟨d, kvs, ev, hd, hal⟩ => by
  refine ⟨d, kvs, ev, S1.ex.dct0 hd, fun H2 p ts hk hp ht hn hH hps => ?_⟩
  let G2 : Hp := fun b => if b = p then some (.lst (ts.map V.ref)) else if b ∈ ts then H2 b else G1 b
  have nw : ∀ b o, H1 b = some o → G2 b = G1 b := fun b o hb => by
    have n1 : b ≠ p := fun z => by rw [z, hp] at hb; cases hb
    have n2 : b ∉ ts := fun z => by rw [ht b z] at hb; cases hb
    show (if b = p then _ else if b ∈ ts then _ else _) = _
    rw [if_neg n1, if_neg n2]
  have e2 : Same G1 G2 := fun b o hb => by
    obtain ⟨u, hu⟩ := S1.ex.some_ hb
    rw [nw b u hu]; exact hb
  have g2p : G2 p = some (.lst (ts.map V.ref)) := by show (if p = p then _ else _) = _; rw [if_pos rfl]
  have g2t : ∀ t ∈ ts, G2 t = H2 t := fun t hm => by
    have n1 : t ≠ p := fun z => hn (by rw [← z]; exact hm)
    show (if t = p then _ else if t ∈ ts then _ else _) = _
    rw [if_neg n1, if_pos hm]
  have x2 : ExL [] G2 H2 := ⟨fun a o ha => .inl ⟨by simp, by
    by_cases z : a = p
    · subst z; rw [g2p] at ha; rw [hH]; exact ha
    · by_cases y : a ∈ ts
      · rw [← g2t a y]; exact ha
      · have ha : G1 a = some o := by
          have q : G2 a = G1 a := by show (if a = p then _ else if a ∈ ts then _ else _) = _; rw [if_neg z, if_neg y]
          rw [← q]; exact ha
        rcases S1.ex.at_ a o ha with ⟨_, q⟩ | ⟨q, _, _⟩
        · exact hk a o q
        · cases q⟩, fun a m => by cases m⟩
  have S2 : Sx B [] ctx ms1 σ G2 H2 := by
    refine ⟨S1.sl.mono e2, x2, ⟨fun q hq => ?_, fun q hq => ?_, S1.mem.nd⟩, S1.stp.then_ (ds' := []) ⟨fun b o hb => nw b o hb, fun b o _ hb => hk b o hb, fun b o hb => ⟨o, hk b o hb⟩⟩ (fun c hc => by cases hc), S1.own⟩
    · obtain ⟨u, hu⟩ := (S1.mem.at_ q hq).some_
      exact (S1.mem.at_ q hq).move e2 ((hk _ _ hu).trans hu.symm)
    · obtain ⟨u, hu⟩ := (S1.mem.at_ q hq).some_
      rw [nw _ u hu]; exact S1.mem.out q hq
  refine k (.ref p) G2 H2 (e1.trans e2) S2 ⟨p, ts.map V.ref, rfl, g2p, ?_⟩
  have main : ∀ {ks : List (Int × Rp)} {kvs : List (Key × V)} {ts' : List Addr}, AlK ks kvs G1 → Paired (fun (t : Addr) (q : Key × V) => H2 t = some (.tup [kV q.1, q.2])) ts' kvs → (∀ t ∈ ts', t ∈ ts) → Al (ks.map fun p => rTup [rI p.1, p.2]) (ts'.map V.ref) G2 := fun {ks} => by
    induction ks with
    | nil =>
      intro kvs ts' h1 h2 _
      cases h1
      cases h2
      exact .nil
    | cons q ks ih =>
      intro kvs ts' h1 h2 h3
      cases h1 with
      | cons a t =>
        cases h2 with
        | cons b u =>
          refine .cons ⟨_, _, rfl, (g2t _ (h3 _ List.mem_cons_self)).trans b, .cons ?_ (.cons (q.2.mono e2 a.2) .nil)⟩ (ih t u fun x hx => h3 x (List.mem_cons_of_mem _ hx))
          rw [a.1]; rfl
  exact main hal hps fun _ h => h
/-- o.m(k = v), o a cell -/
theorem ev_mtKM {α : Type} {pre : α → List Addr → Prop} {ar : α → List Rp} {mi mo : α → Ms} {rs : α → Rp} {C dx a : Addr} {fs fs' : List (Str × Rp)} {m : Str} {ls : List Rp} {n : Nat} (x : α) (j : Nat) (h : EvM B L ta ctx ms (rV (.ref a)) ms1) (hj1 : ms1[j]? = some (a, .ins C dx fs)) (hf : fs.lookup m = none) (ha : EvA B L tk ctx ms1 ls ms2) (hj : ms2[j]? = some (a, .ins C dx fs))
    (hn : ls.length = n) (hx : ar x = rV (.ref a) :: ls) (hp : pre x L) (hi : mi x = [(a, .ins C dx fs)]) (ho : mo x = [(a, .ins C dx fs')]) : EvM B L (tMethK C m n (spF pre ar mi mo rs) E ta tk) ctx ms (rs x) (ms2.set j (a, .ins C dx fs')) := fun σ G H S Q k =>
  h σ G H S _ fun v G1 H1 e1 S1 ev => by
    have c : CAt a G1 H1 (.ins C dx fs) := S1.mem.at_ _ (List.mem_of_getElem? hj1)
    cases c with
    | @ins _ _ _ gs hb hal =>
      refine ⟨a, dx, gs, ev, hb, hal.look0 hf, ha σ G1 H1 S1 _ fun vs G2 H2 e2 S2 q2 => ⟨by rw [← q2.len]; exact hn, x, L, hp, ?_⟩⟩
      rw [hi, ho]
      refine pr_use1 hj S2 ?_ fun v G3 H3 e3 S3 q3 => k v G3 H3 (e1.trans (e2.trans e3)) S3 q3
      rw [hx]
      exact .cons ev q2
theorem ev_undo {i j n : Nat} (x : Ib) (hc : ctx[i]? = some (some (rV (.ref x.a)))) (hj : ms[j]? = some (x.a, cInb K x.dx x.h x.now)) (ha : EvA B L tk ctx ms [rN_ n] ms) (ho : x.ok) (hn : n ≤ x.now) :
    EvM B L (tMethK (He.ga K "Inbox") "undo" 1 (spUndo K) E0 (tVar i) tk) ctx ms (rN_ (x.now - n)) (ms.set j (x.a, cInb K x.dx x.h (x.now - n))) :=
  ev_mtKM (rs := fun z : Ib × Nat => rN_ (z.1.now - z.2)) (ls := [rN_ n]) (fs' := inbF K x.h (x.now - n)) (x, n) j (ev_var hc) hj rfl ha hj rfl rfl ⟨ho, hn⟩ rfl rfl
theorem ev_redo {i j n : Nat} (x : Ib) (hc : ctx[i]? = some (some (rV (.ref x.a)))) (hj : ms[j]? = some (x.a, cInb K x.dx x.h x.now)) (ha : EvA B L tk ctx ms [rN_ n] ms) (ho : x.ok) (hn : x.now + n < x.h.length) :
    EvM B L (tMethK (He.ga K "Inbox") "redo" 1 (spRedo K) E0 (tVar i) tk) ctx ms (rN_ (x.now + n)) (ms.set j (x.a, cInb K x.dx x.h (x.now + n))) :=
  ev_mtKM (rs := fun z : Ib × Nat => rN_ (z.1.now + z.2)) (ls := [rN_ n]) (fs' := inbF K x.h (x.now + n)) (x, n) j (ev_var hc) hj rfl ha hj rfl rfl ⟨ho, hn⟩ rfl rfl
theorem ev_undo1 {i j : Nat} (x : Ib) (hc : ctx[i]? = some (some (rV (.ref x.a)))) (hj : ms[j]? = some (x.a, cInb K x.dx x.h x.now)) (ho : x.ok) (hn : 1 ≤ x.now) :
    EvM B L (tMethR (He.ga K "Inbox") "undo" (spUndo1 K) E0 (tVar i) tNil) ctx ms (rN_ (x.now - 1)) (ms.set j (x.a, cInb K x.dx x.h (x.now - 1))) :=
  ev_mtM (rs := fun x : Ib => rN_ (x.now - 1)) (ls := []) (fs' := inbF K x.h (x.now - 1)) x j j (ev_var hc) hj rfl ea_nil hj rfl ⟨ho, hn⟩ rfl rfl
theorem ev_redo1 {i j : Nat} (x : Ib) (hc : ctx[i]? = some (some (rV (.ref x.a)))) (hj : ms[j]? = some (x.a, cInb K x.dx x.h x.now)) (ho : x.ok) (hn : x.now + 1 < x.h.length) :
    EvM B L (tMethR (He.ga K "Inbox") "redo" (spRedo1 K) E0 (tVar i) tNil) ctx ms (rN_ (x.now + 1)) (ms.set j (x.a, cInb K x.dx x.h (x.now + 1))) :=
  ev_mtM (rs := fun x : Ib => rN_ (x.now + 1)) (ls := []) (fs' := inbF K x.h (x.now + 1)) x j j (ev_var hc) hj rfl ea_nil hj rfl ⟨ho, hn⟩ rfl rfl
theorem ev_use {i j : Nat} (y : UsX) (hc : ctx[i]? = some (some (rV (.ref y.x.a)))) (hj : ms[j]? = some (y.x.a, cInb K y.x.dx y.x.h y.x.now)) (ha : EvA B [] tl ctx ms [rRule K y.ps y.se] ms) (ho : y.x.ok) (hp : okPs y.ps) :
    EvM B [] (tMethR (He.ga K "Inbox") "use" (spUse K) E0 (tVar i) tl) ctx ms (rN_ y.n') (ms.set j (y.x.a, cInb K y.x.dx y.h' y.n')) :=
  ev_mtM (rs := fun y : UsX => rN_ y.n') (ls := [rRule K y.ps y.se]) (fs' := inbF K y.h' y.n') y j j (ev_var hc) hj rfl ha hj rfl ⟨⟨ho, hp⟩, rfl⟩ rfl rfl
theorem ev_received {j i v : Nat} (y : RecX) (hc : ctx[i]? = some (some (rV (.ref y.x.a)))) (hv : ctx[v]? = some (some (rLst (y.As.map rArr)))) (hj : ms[j]? = some (y.x.a, cInb K y.x.dx y.x.h y.x.now)) (ho : y.ok) (hl : y.As.length ≤ 3) :
    EvM B [] (tCallR (spReceived K) E0 (tCons (tVar i) (tCons (tVar v) tNil))) ctx ms (rN_ y.many) (ms.set j (y.x.a, cInb K y.x.dx y.h' y.n')) :=
  ev_call1 (res := fun y : RecX => rN_ y.many) y j (ea_cons (ev_var hc) (ea_cons (ev_var hv) ea_nil)) ⟨⟨ho, hl⟩, rfl⟩ rfl rfl hj
theorem rv_neNilA {As : List Arr} (h : ∀ a ∈ As, okArr a) : RvM B L (rNeD K) (rLst (As.map rArr)) (rLst []) ctx ms (rB (!As.isEmpty)) ms := by
  have h1 : Dat K (rLst (As.map rArr)) (.list (As.map dArr)) := dat_lst (paired_map fun _ _ => dat_arr)
  have h2 : Dat K (rLst []) (.list []) := dat_lst .nil
  have z := rv_neD (B := B) (L := L) (ctx := ctx) (ms := ms) h1 h2 ((da_lst (da_map fun a ha => da_arr (h a ha))).shaped (by omega)) ((da_lst (k := 0) (by simp)).shaped (by omega))
  rw [eqv_arrs] at z
  exact z
/-- a drawn number == another -/
theorem rv_eqDrawn {P : Int → Prop} {j : Int} : RvM B L rEq (rEx P rI) (rI j) ctx ms (rEx (fun _ : Bool => True) rB) ms := rv_exL fun i hi => fun σ G H x y S hx hy Q q => rv_eq rfl σ G H x y S hx hy Q fun v G' H' e S' hv => q v G' H' e S' ⟨_, trivial, hv⟩
end
/-! ### the pool; histories that go on -/
theorem putA_add {ls : List Arr} {a : Arr} (ag : ∀ b ∈ ls, b.m = a.m → b = a) : putI a.m (rArr a) (ltD ls) = ltD (addA ls a) := by
  unfold addA
  by_cases h : a.m ∈ ls.map (·.m)
  · rw [if_pos h]
    unfold putI
    have hany : ((ltD ls).any fun p => decide (p.1 = a.m)) = true := by
      obtain ⟨b, hb, e⟩ := List.mem_map.mp h
      exact List.any_eq_true.mpr ⟨(b.m, rArr b), List.mem_map.mpr ⟨b, hb, rfl⟩, decide_eq_true e⟩
    rw [if_pos hany, List.map_map]
    refine List.map_congr_left fun b hb => ?_
    show (if b.m = a.m then (b.m, rArr a) else (b.m, rArr b)) = (b.m, rArr b)
    by_cases e : b.m = a.m
    · rw [if_pos e, ag b hb e]
    · rw [if_neg e]
  · rw [if_neg h, putI_new fun p hp e => by
      obtain ⟨b, hb, e2⟩ := List.mem_map.mp hp
      subst e2
      exact h (List.mem_map.mpr ⟨b, hb, e⟩)]
    show _ = List.map _ _
    rw [List.map_append]
    rfl
structure Pool (pool : List Arr) : Prop where
  nd : (pool.map (·.m)).Nodup
  ok : ∀ a ∈ pool, okArr a
  len : pool.length ≤ 9
theorem Pool.eq {pool : List Arr} (h : Pool pool) {a b : Arr} (ha : a ∈ pool) (hb : b ∈ pool) (e : b.m = a.m) : b = a := by
  have z1 := arrOf_mem h.nd ha
  have z2 := arrOf_mem h.nd hb
  rw [e, z1] at z2
  exact z2.symm
theorem Pool.le {pool ls : List Arr} (h : Pool pool) (nd : (ls.map (·.m)).Nodup) (s : ∀ a ∈ ls, a ∈ pool) : ls.length ≤ 9 := by
  have z := nodup_le nd (M := pool.map (·.m)) fun x hx => by
    obtain ⟨a, ha, e⟩ := List.mem_map.mp hx
    exact List.mem_map.mpr ⟨a, s a ha, e⟩
  rw [List.length_map, List.length_map] at z
  exact Nat.le_trans z h.len
theorem Pool.ls {pool ls : List Arr} (h : Pool pool) (nd : (ls.map (·.m)).Nodup) (s : ∀ a ∈ ls, a ∈ pool) : okLs ls := ⟨nd, fun a ha => h.ok a (s a ha), Nat.le_trans (h.le nd s) (by omega)⟩
theorem merge_add {pool : List Arr} (h : Pool pool) : ∀ {As ls : List Arr}, (∀ a ∈ ls, a ∈ pool) → (∀ a ∈ As, a ∈ pool) → mergeI (ltD ls) (ltD As) = ltD (addAs ls As)
  | [], _, _, _ => rfl
  | a :: As, ls, hl, hA => by
    have ha := hA a List.mem_cons_self
    have e : putI a.m (rArr a) (ltD ls) = ltD (addA ls a) := putA_add fun b hb e => h.eq ha (hl b hb) e
    show mergeI (putI a.m (rArr a) (ltD ls)) (ltD As) = ltD (addAs (addA ls a) As)
    rw [e]
    refine merge_add h (fun b hb => ?_) fun b hb => hA b (List.mem_cons_of_mem _ hb)
    rcases addA_sub hb with q | q
    · exact hl b q
    · rw [q]; exact ha
theorem merge_all {pool : List Arr} (h : Pool pool) {As ls : List Arr} (nd : (ls.map (·.m)).Nodup) (hl : ∀ a ∈ ls, a ∈ pool) (hA : ∀ a ∈ As, a ∈ pool) : mergeI [] (ltD ls ++ ltD As) = ltD (addAs ls As) := by
  have e1 : mergeI [] (ltD ls ++ ltD As) = mergeI (mergeI [] (ltD ls)) (ltD As) := by unfold mergeI; rw [List.foldl_append]
  rw [e1, mergeI_new (ks := []) (by rw [List.nil_append, List.map_map]; exact nd), List.nil_append]
  exact merge_add h hl hA
/-- one more version -/
theorem okH.turn {h : List Ent} (o : okH h) {n : Nat} (hn : n < h.length) {e : Ent} (he : okE e) (le : ∀ m ∈ marks (atE h n).ls, m ∈ marks e.ls) (hl : h.length < 40) : okH (h.take (n + 1) ++ [e]) := by
  have t := o.take hn
  refine ⟨by simp, fun a ha => ?_, List.pairwise_append.mpr ⟨t.gr, List.pairwise_singleton _ _, fun a ha b hb m hm => ?_⟩, by rw [List.length_append, List.length_take, List.length_singleton]; omega⟩
  · rcases List.mem_append.mp ha with q | q
    · exact t.ok a q
    · rw [List.mem_singleton.mp q]; exact he
  · rw [List.mem_singleton.mp hb]
    have g := t.gr
    unfold Grow at g
    rw [hist_at hn] at ha g
    rcases List.mem_append.mp ha with q | q
    · exact le m ((List.pairwise_append.mp g).2.2 a q _ (List.mem_singleton.mpr rfl) m hm)
    · rw [List.mem_singleton.mp q] at hm; exact le m hm
/-- what a history keeps -/
structure HiO (pool : List Arr) (h : List Ent) (n : Nat) : Prop where
  ok : okH h
  lt : n < h.length
  sub : ∀ e ∈ h, ∀ a ∈ e.ls, a ∈ pool
theorem HiO.at_ {pool : List Arr} {h : List Ent} {n : Nat} (o : HiO pool h n) : ∀ a ∈ (atE h n).ls, a ∈ pool := by
  have e : atE h n = h[n]'o.lt := by simp [atE, List.getD, List.getElem?_eq_getElem o.lt]
  intro a ha
  rw [e] at ha
  exact o.sub _ (List.getElem_mem o.lt) a ha
theorem HiO.turn {pool : List Arr} {h : List Ent} {n : Nat} (o : HiO pool h n) {e : Ent} (he : okE e) (le : ∀ m ∈ marks (atE h n).ls, m ∈ marks e.ls) (hl : h.length < 40) (hs : ∀ a ∈ e.ls, a ∈ pool) : HiO pool (h.take (n + 1) ++ [e]) (n + 1) := by
  refine ⟨o.ok.turn o.lt he le hl, by have := o.lt; rw [List.length_append, List.length_take]; simp; omega, fun a ha => ?_⟩
  rcases List.mem_append.mp ha with q | q
  · exact o.sub a (List.mem_of_mem_take q)
  · rw [List.mem_singleton.mp q]; exact hs
theorem take_len {h : List Ent} {n : Nat} {e : Ent} : (h.take (n + 1) ++ [e]).length ≤ h.length + 1 := by rw [List.length_append, List.length_take, List.length_singleton]; omega
theorem addAs_mem {As ls : List Arr} {m : Int} (h : m ∈ marks ls) : m ∈ marks (addAs ls As) := by
  rw [mem_marks] at h ⊢
  obtain ⟨b, hb, e⟩ := List.mem_map.mp h
  obtain ⟨t, ht⟩ := addAs_pre (As := As) (ls := ls)
  rw [ht]
  exact List.mem_map.mpr ⟨b, List.mem_append_left _ hb, e⟩
end K62
set_option maxHeartbeats 4000000
/-! K62Gg: a drawn deed. -/
namespace K62
open PySem PySem.Spec PyProof.Rows L2
local macro_rules | `(tactic| walk_at "ev") => `(tactic| repeat' (first
  | ((with_reducible apply ev_var); exact rfl)
  | with_reducible exact ev_c
  | with_reducible exact ea_nil
  | with_reducible exact et_yes
  | with_reducible exact rv_I0
  | with_reducible exact eo_none
  | with_reducible apply eo_some
  | with_reducible apply ea_cons
  | with_reducible apply ev_op
  | (with_reducible apply ev_andV <;> try intro _)
  | (with_reducible apply ev_orV <;> try intro _)
  | with_reducible apply ev_notV
  | with_reducible apply ev_tup
  | with_reducible apply ev_lst
  | with_reducible apply ev_neg
  | with_reducible apply ev_cb
  | with_reducible apply et_B
  | with_reducible apply et_val
  | with_reducible apply et_not
  | (with_reducible apply et_and <;> try intro _)
  | (with_reducible apply et_or <;> try intro _)
  | with_reducible apply ev_call
  | with_reducible apply ev_fld
  | with_reducible exact cls_Cutter (by assumption)
  | with_reducible exact cls_Rule (by assumption)
  | with_reducible exact cls_Page (by assumption)
  | with_reducible exact cls_Inbox (by assumption)
  | with_reducible exact na_parts (by assumption)
  | with_reducible exact na_tables (by assumption)
  | with_reducible exact na_whole (by assumption)
  | with_reducible exact na_cutter (by assumption)
  | with_reducible exact na_sees (by assumption)
  | with_reducible exact na_rule (by assumption)
  | with_reducible exact na_pmarks (by assumption)
  | with_reducible exact na_letters (by assumption)
  | with_reducible exact na_bound (by assumption)
  | with_reducible exact na_shown (by assumption)
  | with_reducible exact na_moves (by assumption)
  | with_reducible exact na_near (by assumption)
  | with_reducible exact na_groups (by assumption)
  | with_reducible exact na_pages (by assumption)
  | with_reducible exact na_version (by assumption)
  | with_reducible exact na_marks (by assumption)
  | with_reducible exact isi_str (by assumption)
  | with_reducible exact isi_int (by assumption)
  | with_reducible exact isi_intbool (by assumption)
  | with_reducible exact isi_bool (by assumption)
  | with_reducible exact isi_tup (by assumption)
  | with_reducible exact isi_Cutter (by assumption)
  | with_reducible exact isi_Rule (by assumption)
  | with_reducible exact isi_Inbox (by assumption)
  | with_reducible exact rc_lenT
  | with_reducible exact rc_lenL
  | with_reducible apply rc_lenS
  | with_reducible exact rc_abs
  | with_reducible exact rc_max
  | with_reducible exact rc_min
  | with_reducible exact rc_int
  | with_reducible exact rc_intB
  | with_reducible exact rv_inSign
  | with_reducible exact rv_inT
  | with_reducible exact rv_inL
  | with_reducible exact rv_ninL
  | with_reducible exact rv_ixT0
  | with_reducible exact rv_ixT1
  | with_reducible exact rv_ixT2
  | with_reducible exact rv_ixT3
  | with_reducible exact rv_ixL0
  | with_reducible exact rv_ixL1
  | with_reducible exact rv_ixL2))
section
variable {P : Program} {w : World} {K : PySem.W.Frag} {mg : Str → Option Value} {base : Heap}
structure DeX where
  d : Addr
  x : Ib
  pool : List Arr
structure DeX.ok (z : DeX) : Prop where
  x : z.x.ok
  pool : Pool z.pool
  hi : HiO z.pool z.x.h z.x.now
  len : z.x.h.length < 40
abbrev DeX.out (z : DeX) (b : List Ent × Nat) : Prop := HiO z.pool b.1 b.2 ∧ b.1.length ≤ z.x.h.length + 1
noncomputable abbrev rHN (h : List Ent) (n : Nat) : Rp := rTup [rHist h, rN_ n]
noncomputable abbrev spDeed (K : Fr) : Sp := spE (β := List Ent × Nat) (fun (z : DeX) L => z.ok ∧ L = []) (fun z => [rV (.ref z.d), rV (.ref z.x.a), rLst (z.pool.map rArr), rHist z.x.h, rN_ z.x.now]) (fun z => [(z.d, .dice), (z.x.a, cInb K z.x.dx z.x.h z.x.now)])
  (fun z b => [(z.d, .dice), (z.x.a, cInb K z.x.dx b.1 b.2)]) (fun z b => rIf (z.out b) (rHN b.1 b.2))
/-- what is drawn for a deed -/
abbrev rRow (pool : List Arr) : Rp := rEx (fun As : List Arr => (∀ a ∈ As, a ∈ pool) ∧ As.length ≤ 3) fun As => rLst (As.map rArr)
abbrev rQs : Rp := rEx okPs fun qs : List Pt => rLst (qs.map rP)
theorem cut_hist {h : List Ent} {n : Nat} (hn : n < h.length) : cutRs (h.map rEnt) none (some (((n : Nat) : Int) + 1)) = (h.take (n + 1)).map rEnt := by
  refine (cutRs_to (k := n + 1) ?_).trans List.map_take.symm
  rw [List.length_map]
  omega
/-- (h[:n + 1] + [e], n + 1) -/
theorem ev_next {B : Bs} {ctx : Ct} {ms : Ms} {tc : TE} {h : List Ent} {n i j : Nat} {e : Ent} (h1 : ctx[i]? = some (some (rHist h))) (h2 : ctx[j]? = some (some (rN_ n))) (hn : n < h.length) (hl : h.length < 40) (he : EvM B [] tc ctx ms (rEnt e) ms) :
    EvM B [] (tTup (tCons (tOp rCat (tSl (rSlL K) (tVar i) tNoPart (tPart (tOp (rI0 fun i j => .int (i + j)) (tVar j) (tC (.int 1))))) (tLst (tCons tc tNil))) (tCons (tOp (rI0 fun i j => .int (i + j)) (tVar j) (tC (.int 1))) tNil))) ctx ms (rHN (h.take (n + 1) ++ [e]) (n + 1)) ms :=
  ev_tup (ea_cons (ev_is (ev_op (ev_slL (ev_var h1) eo_none (eo_some (ev_op (ev_var h2) ev_c rv_I0))) (ev_lst (ea_cons he ea_nil) (by simp)) (rv_cat (by rw [cut_hist hn, List.length_map, List.length_take]; simp; omega))) (by rw [cut_hist hn]; show rLst _ = rLst _; rw [List.map_append]; rfl)) (ea_cons (ev_is (ev_op (ev_var h2) ev_c rv_I0) rfl) ea_nil)) (by simp)
theorem rv_eqStr {B : Bs} {L : List Addr} {ctx : Ct} {ms : Ms} {s : Str} : RvM B L rEq (rS s) (rS s) ctx ms (rB true) ms := by
  have z := rv_eq (B := B) (L := L) (ctx := ctx) (ms := ms) (x := V.str s) (y := V.str s) rfl
  rw [decide_eq_true rfl] at z
  exact z
theorem rv_eqNat {B : Bs} {L : List Addr} {ctx : Ct} {ms : Ms} {n : Nat} : RvM B L rEq (rN_ n) (rN_ n) ctx ms (rB true) ms := by
  have z := rv_eq (B := B) (L := L) (ctx := ctx) (ms := ms) (x := V.int n) (y := V.int n) rfl
  rw [decide_eq_true rfl] at z
  exact z
theorem parts_okPs {ps : List Pt} (h : (∀ p ∈ ps, p.ok) ∧ ps.length ≤ 2) : okPs ps := ⟨h.1, Nat.le_trans h.2 (by omega)⟩
theorem same_eq {qs ps : List Pt} {fl se : Bool} : (decide (V.bl fl = V.bl se) && sameB qs ps) = sameR qs fl ps se := by
  have e : decide (V.bl fl = V.bl se) = decide (fl = se) := decide_eq_decide.mpr ⟨fun h => V.bl.inj h, fun h => congrArg V.bl h⟩
  unfold sameB sameR
  rw [e, Bool.and_comm]
abbrev tRoll (i : Nat) (n : Int) : TE := tCallR spRoll E0 (tCons (tVar i) (tCons (tC (.int n)) tNil))
theorem ev_roll {B : Bs} {L : List Addr} {ctx : Ct} {ms : Ms} {d : Addr} {i j : Nat} {n : Int} (hc : ctx[i]? = some (some (rV (.ref d)))) (hj : ms[j]? = some (d, .dice)) (h0 : 0 < n) (h1 : n ≤ 100000) : EvM B L (tRoll i n) ctx ms (rRoll n) ms :=
  ev_callD (res := fun x : Addr × Int => rRoll x.2) (d, n) j (ea_cons (ev_var hc) (ea_cons ev_c ea_nil)) ⟨h0, h1⟩ rfl rfl hj
theorem ev_oneOf {B : Bs} {L : List Addr} {ctx : Ct} {ms : Ms} {d : Addr} {i j : Nat} {rs : List Rp} {te : TE} (hc : ctx[i]? = some (some (rV (.ref d)))) (he : EvM B L te ctx ms (rLst rs) ms) (hj : ms[j]? = some (d, .dice)) (h0 : rs ≠ []) (h1 : rs.length ≤ 1000) : EvM B L (tCallR spOneOf E0 (tCons (tVar i) (tCons te tNil))) ctx ms (rOne rs) ms :=
  ev_callD (res := fun x : Addr × List Rp => rOne x.2) (d, rs) j (ea_cons (ev_var hc) (ea_cons he ea_nil)) ⟨h0, h1⟩ rfl rfl hj
theorem ev_rowN {B : Bs} {L : List Addr} {ctx : Ct} {ms : Ms} {d : Addr} {pool : List Arr} (hn : pool ≠ []) (hl : pool.length ≤ 9) (h0 : ctx[0]? = some (some (rV (.ref d)))) (h2 : ctx[2]? = some (some (rLst (pool.map rArr)))) (hj : ms[0]? = some (d, .dice)) :
    EvM B L (tLc (iRng1 (tCons (tRoll 0 4) tNil)) (gName 10) tYes (tCallR spOneOf E0 (tCons (tVar 0) (tCons (tVar 2) tNil))) [10]) ctx ms (rRow pool) ms := fun σ G H S Q kk => by
  have w0 : ∀ r, ((wipeC ctx [10]).set 10 (some r))[0]? = some (some (rV (.ref d))) := fun r => by
    show ((ctx.set 10 none).set 10 (some r))[0]? = _
    rw [List.getElem?_set_ne (by omega), List.getElem?_set_ne (by omega)]; exact h0
  have w2 : ∀ r, ((wipeC ctx [10]).set 10 (some r))[2]? = some (some (rLst (pool.map rArr))) := fun r => by
    show ((ctx.set 10 none).set 10 (some r))[2]? = _
    rw [List.getElem?_set_ne (by omega), List.getElem?_set_ne (by omega)]; exact h2
  refine ev_lcY (γ := Nat) (ι := Unit) (P := fun c => c ≤ 3) (mf := fun _ => ms) (fun c i _ ys => ∃ As : List Arr, As.length = i ∧ (∀ a ∈ As, a ∈ pool) ∧ ys = As.map rArr) () (eix_rng (P := fun c => c ≤ 3) (ea_cons ?_ ea_nil) (fun c hc => by omega)) (fun c hc => by rw [List.length_map, List.length_range]; omega) (fun c hc => ⟨[], rfl, by simp, rfl⟩) (fun c i r _ ys hc hr ⟨As, hl2, hs, hy⟩ => ⟨_, gm_name (by simp), fun B σ G H S Qy ky => ?_⟩) S fun c _ ys v G' H' hc ⟨As, hl2, hs, hy⟩ e S' hv => ?_
  · refine ev_imp (ev_roll h0 hj (by decide) (by decide)) fun v G ⟨k, ⟨k0, k1⟩, hv⟩ => ⟨k.toNat, by omega, ?_⟩
    have : (k.toNat : Int) = k := by omega
    show v = V.int (k.toNat : Int)
    rw [this]
    exact hv
  · refine (ev_oneOf (rs := pool.map rArr) (w0 r) (ev_var (w2 r)) hj (fun z => hn (List.map_eq_nil_iff.mp z)) (by rw [List.length_map]; omega)) σ G H S _ fun v G1 H1 e1 S1 ⟨r1, hr1, hv⟩ => ?_
    obtain ⟨a, ha, rfl⟩ := List.mem_map.mp hr1
    refine ky v (rArr a) () G1 H1 ⟨As ++ [a], by rw [List.length_append, hl2]; rfl, fun b hb => ?_, by rw [hy, List.map_append]; rfl⟩ e1 S1 hv
    rcases List.mem_append.mp hb with q | q
    · exact hs b q
    · rw [List.mem_singleton.mp q]; exact ha
  · rw [List.length_map, List.length_range] at hl2
    subst hy
    exact kk v G' H' e S' ⟨As, ⟨hs, by omega⟩, hv⟩
theorem ev_row {B : Bs} {L : List Addr} {ctx : Ct} {ms : Ms} {d : Addr} {pool : List Arr} (hp : Pool pool) (h0 : ctx[0]? = some (some (rV (.ref d)))) (h2 : ctx[2]? = some (some (rLst (pool.map rArr)))) (hj : ms[0]? = some (d, .dice)) :
    EvM B L (tIf (tTest (tOp (rNeD K) (tVar 2) (tLst tNil))) (tLc (iRng1 (tCons (tRoll 0 4) tNil)) (gName 10) tYes (tCallR spOneOf E0 (tCons (tVar 0) (tCons (tVar 2) tNil))) [10]) (tLst tNil)) ctx ms (rRow pool) ms := by
  refine ev_if (b := !pool.isEmpty) (et_val (ev_op (ev_var h2) ev_nil (rv_neNilA hp.ok))) (fun hne => ?_) (fun hne => ?_)
  · exact ev_rowN (fun z => by rw [z] at hne; cases hne) hp.len h0 h2 hj
  · exact ev_ex (f := fun As : List Arr => rLst (As.map rArr)) ([] : List Arr) ev_nil ⟨by simp, by simp⟩
theorem ev_headX {B : Bs} {L : List Addr} {ctx : Ct} {ms : Ms} {i j : Nat} (x : Ib) (h1 : ctx[i]? = some (some (rHist x.h))) (h2 : ctx[j]? = some (some (rN_ x.now))) (hn : x.now < x.h.length) :
    EvM B L (tSl (rSlA K) (tOp (rIxL K) (tVar i) (tVar j)) tNoPart (tPart (tC (.int 3)))) ctx ms (rTup [rLst (x.e.ps.map rP), rB x.e.se, rLet x.e.ls]) ms := ev_head h1 h2 hn
theorem ev_parts2 {B : Bs} {L : List Addr} {ctx : Ct} {ms : Ms} {d : Addr} {i j : Nat} (hc : ctx[i]? = some (some (rV (.ref d)))) (hj : ms[j]? = some (d, .dice)) : EvM B L (tCallR spParts E0 (tCons (tVar i) (tCons (tC (.int 2)) tNil))) ctx ms (rEx (fun ps : List Pt => (∀ p ∈ ps, p.ok) ∧ ps.length ≤ 2) fun ps => rLst (ps.map rP)) ms :=
  ev_callD (res := fun _ : Addr × Nat => rEx (fun ps : List Pt => (∀ p ∈ ps, p.ok) ∧ ps.length ≤ 2) fun ps => rLst (ps.map rP)) (d, 2) j (ea_cons (ev_var hc) (ea_cons ev_c ea_nil)) (Nat.le_refl 2) rfl rfl hj
theorem ev_others {B : Bs} {L : List Addr} {ctx : Ct} {ms : Ms} {d : Addr} {ps : List Pt} (hp : okPs ps) (h0 : ctx[0]? = some (some (rV (.ref d)))) (h5 : ctx[5]? = some (some (rLst (ps.map rP)))) (hj : ms[0]? = some (d, .dice)) :
    EvM B L (tCallR spOneOf E0 (tCons (tVar 0) (tCons (tLst (tCons (tVar 5) (tCons (tSl (rSlL K) (tVar 5) (tPart (tC (.int 1))) tNoPart) (tCons (tCallR spParts E0 (tCons (tVar 0) (tCons (tC (.int 2)) tNil))) (tCons (tCallR spParts E0 (tCons (tVar 0) (tCons (tC (.int 2)) tNil))) tNil))))) tNil))) ctx ms rQs ms := by
  refine ev_imp (ev_oneOf (rs := [rLst (ps.map rP), rLst ((ps.drop 1).map rP), rEx (fun ps : List Pt => (∀ p ∈ ps, p.ok) ∧ ps.length ≤ 2) fun ps => rLst (ps.map rP), rEx (fun ps : List Pt => (∀ p ∈ ps, p.ok) ∧ ps.length ≤ 2) fun ps => rLst (ps.map rP)]) h0 (ev_lst (ea_cons (ev_var h5) (ea_cons (ev_is (ev_slL (ev_var h5) (eo_some ev_c) eo_none) (congrArg rLst (cutRs_1.trans List.map_drop.symm))) (ea_cons (ev_parts2 h0 hj) (ea_cons (ev_parts2 h0 hj) ea_nil)))) (by simp)) hj (by simp) (by simp)) fun v G ⟨r, hr, hv⟩ => ?_
  simp only [List.mem_cons, List.not_mem_nil, or_false] at hr
  rcases hr with rfl | rfl | rfl | rfl
  · exact ⟨ps, hp, hv⟩
  · exact ⟨ps.drop 1, ⟨fun p h => hp.1 p (List.mem_of_mem_drop h), by rw [List.length_drop]; exact Nat.le_trans (Nat.sub_le _ _) hp.2⟩, hv⟩
  · obtain ⟨ps, h1, h2⟩ := hv; exact ⟨ps, parts_okPs h1, h2⟩
  · obtain ⟨ps, h1, h2⟩ := hv; exact ⟨ps, parts_okPs h1, h2⟩
theorem ev_flag {B : Bs} {L : List Addr} {ctx : Ct} {ms : Ms} {d : Addr} {i j : Nat} (hc : ctx[i]? = some (some (rV (.ref d)))) (hj : ms[j]? = some (d, .dice)) : EvM B L (tOp rEq (tRoll i 2) (tC (.int 0))) ctx ms (rEx (fun _ : Bool => True) rB) ms := ev_op (ev_roll hc hj (by decide) (by decide)) ev_c rv_eqDrawn
/-- use: an equal rule, another one -/
theorem ev_useEq {B : Bs} {ctx : Ct} {ms : Ms} {tl : TA} {i j : Nat} {qs : List Pt} {fl : Bool} (x : Ib) (hc : ctx[i]? = some (some (rV (.ref x.a)))) (hj : ms[j]? = some (x.a, cInb K x.dx x.h x.now)) (ha : EvA B [] tl ctx ms [rRule K qs fl] ms) (ho : x.ok) (hp : okPs qs) (hs : sameR qs fl x.e.ps x.e.se = true) :
    EvM B [] (tMethR (He.ga K "Inbox") "use" (spUse K) E0 (tVar i) tl) ctx ms (rN_ x.now) ms := by
  have z := ev_use (B := B) (⟨x, qs, fl⟩ : UsX) hc hj ha ho hp
  have hh : (⟨x, qs, fl⟩ : UsX).h' = x.h := if_pos hs
  have hn : (⟨x, qs, fl⟩ : UsX).n' = x.now := if_pos hs
  rw [hh, hn, set_same hj] at z
  exact z
theorem ev_useNe {B : Bs} {ctx : Ct} {ms : Ms} {tl : TA} {i j : Nat} {qs : List Pt} {fl : Bool} (x : Ib) (hc : ctx[i]? = some (some (rV (.ref x.a)))) (hj : ms[j]? = some (x.a, cInb K x.dx x.h x.now)) (ha : EvA B [] tl ctx ms [rRule K qs fl] ms) (ho : x.ok) (hp : okPs qs) (hs : ¬ sameR qs fl x.e.ps x.e.se = true) :
    EvM B [] (tMethR (He.ga K "Inbox") "use" (spUse K) E0 (tVar i) tl) ctx ms (rN_ (x.now + 1)) (ms.set j (x.a, cInb K x.dx (x.h.take (x.now + 1) ++ [⟨qs, fl, x.e.ls⟩]) (x.now + 1))) := by
  have z := ev_use (B := B) (⟨x, qs, fl⟩ : UsX) hc hj ha ho hp
  have hh : (⟨x, qs, fl⟩ : UsX).h' = x.h.take (x.now + 1) ++ [⟨qs, fl, x.e.ls⟩] := if_neg hs
  have hn : (⟨x, qs, fl⟩ : UsX).n' = x.now + 1 := if_neg hs
  rw [hh, hn] at z
  exact z
theorem ev_ruleOf {B : Bs} {L : List Addr} {ctx : Ct} {ms : Ms} {i j : Nat} {qs : List Pt} {fl : Bool} (h1 : ctx[i]? = some (some (rLst (qs.map rP)))) (h2 : ctx[j]? = some (some (rB fl))) (hp : okPs qs) : EvM B L (tCallR (spRuleOf K) E0 (tCons (tVar i) (tCons (tVar j) tNil))) ctx ms (rRule K qs fl) ms :=
  ev_call (res := fun x : List Pt × Bool => rRule K x.1 x.2) (qs, fl) (ea_cons (ev_var h1) (ea_cons (ev_var h2) ea_nil)) hp
/-- received: nothing new, something new -/
theorem ev_recNo {B : Bs} {ctx : Ct} {ms : Ms} {j i v : Nat} (x : Ib) (As : List Arr) (hc : ctx[i]? = some (some (rV (.ref x.a)))) (hv : ctx[v]? = some (some (rLst (As.map rArr)))) (hj : ms[j]? = some (x.a, cInb K x.dx x.h x.now)) (ho : (⟨x, As⟩ : RecX).ok) (hl : As.length ≤ 3) (h0 : ¬ 0 < (addAs x.e.ls As).length - x.e.ls.length) :
    EvM B [] (tCallR (spReceived K) E0 (tCons (tVar i) (tCons (tVar v) tNil))) ctx ms (rN_ ((addAs x.e.ls As).length - x.e.ls.length)) ms := by
  have z := ev_received (B := B) (⟨x, As⟩ : RecX) hc hv hj ho hl
  have hh : (⟨x, As⟩ : RecX).h' = x.h := if_neg h0
  have hn : (⟨x, As⟩ : RecX).n' = x.now := if_neg h0
  rw [hh, hn, set_same hj] at z
  exact z
theorem ev_recYes {B : Bs} {ctx : Ct} {ms : Ms} {j i v : Nat} (x : Ib) (As : List Arr) (hc : ctx[i]? = some (some (rV (.ref x.a)))) (hv : ctx[v]? = some (some (rLst (As.map rArr)))) (hj : ms[j]? = some (x.a, cInb K x.dx x.h x.now)) (ho : (⟨x, As⟩ : RecX).ok) (hl : As.length ≤ 3) (h0 : 0 < (addAs x.e.ls As).length - x.e.ls.length) :
    EvM B [] (tCallR (spReceived K) E0 (tCons (tVar i) (tCons (tVar v) tNil))) ctx ms (rN_ ((addAs x.e.ls As).length - x.e.ls.length)) (ms.set j (x.a, cInb K x.dx (x.h.take (x.now + 1) ++ [⟨x.e.ps, x.e.se, addAs x.e.ls As⟩]) (x.now + 1))) := by
  have z := ev_received (B := B) (⟨x, As⟩ : RecX) hc hv hj ho hl
  have hh : (⟨x, As⟩ : RecX).h' = x.h.take (x.now + 1) ++ [⟨x.e.ps, x.e.se, addAs x.e.ls As⟩] := if_pos h0
  have hn : (⟨x, As⟩ : RecX).n' = x.now + 1 := if_pos h0
  rw [hh, hn] at z
  exact z
theorem et_neR {B : Bs} {ctx : Ct} {ms ms1 : Ms} {t1 t2 : TE} {n : Nat} (h1 : EvM B [] t1 ctx ms (rN_ n) ms1) (h2 : EvM B [] t2 ctx ms1 (rN_ n) ms1) (hn : n ≤ 1000) : EvT B [] (tTest (tOp rNe (tCB (rRepr K) (tCons t1 tNil)) (tCB (rRepr K) (tCons t2 tNil)))) ctx ms false ms1 :=
  et_val (ev_op (ev_cb (ea_cons h1 ea_nil) (rc_natR hn)) (ev_cb (ea_cons h2 ea_nil) (rc_natR hn)) rv_neStr)
theorem et_eqR {B : Bs} {ctx : Ct} {ms ms1 : Ms} {t1 t2 : TE} {n : Nat} (h1 : EvM B [] t1 ctx ms (rN_ n) ms1) (h2 : EvM B [] t2 ctx ms1 (rN_ n) ms1) (hn : n ≤ 1000) : EvT B [] (tTest (tOp rEq (tCB (rRepr K) (tCons t1 tNil)) (tCB (rRepr K) (tCons t2 tNil)))) ctx ms true ms1 :=
  et_val (ev_op (ev_cb (ea_cons h1 ea_nil) (rc_natR hn)) (ev_cb (ea_cons h2 ea_nil) (rc_natR hn)) rv_eqStr)
theorem et_eqN {B : Bs} {L : List Addr} {ctx : Ct} {ms : Ms} {t1 t2 : TE} {n : Nat} (h1 : EvM B L t1 ctx ms (rN_ n) ms) (h2 : EvM B L t2 ctx ms (rN_ n) ms) : EvT B L (tTest (tOp rEq t1 t2)) ctx ms true ms := et_val (ev_op h1 h2 rv_eqNat)
theorem ev_inc {B : Bs} {L : List Addr} {ctx : Ct} {ms : Ms} {t1 : TE} {n : Nat} (h1 : EvM B L t1 ctx ms (rN_ n) ms) : EvM B L (tOp (rI0 fun i j => .int (i + j)) t1 (tC (.int 1))) ctx ms (rN_ (n + 1)) ms := ev_is (ev_op h1 ev_c rv_I0) rfl
theorem et_pos {B : Bs} {L : List Addr} {ctx : Ct} {ms : Ms} {t1 : TE} {n : Nat} (h1 : EvM B L t1 ctx ms (rN_ n) ms) (h : 0 < n) : EvT B L (tTest (tOp (rI0 fun i j => .bl (decide (i > j))) t1 (tC (.int 0)))) ctx ms true ms := et_b (et_val (ev_op h1 ev_c rv_I0)) (decide_eq_true (by omega))
theorem et_npos {B : Bs} {L : List Addr} {ctx : Ct} {ms : Ms} {t1 : TE} {n : Nat} (h1 : EvM B L t1 ctx ms (rN_ n) ms) (h : ¬ 0 < n) : EvT B L (tTest (tOp (rI0 fun i j => .bl (decide (i > j))) t1 (tC (.int 0)))) ctx ms false ms := et_b (et_val (ev_op h1 ev_c rv_I0)) (decide_eq_false (by omega))
abbrev rDictP (K : Fr) : List V → Hp → VK → Prop := fun xs H Q => ∃ (a : Addr) (ps : List Addr) (kvs : List (Key × V)), xs = [.ref a] ∧ SqL K H a (ps.map V.ref) ∧ Paired (fun p kv => SqT K H p [kV kv.1, kv.2]) ps kvs ∧ ∀ p, H p = none → Q (.ref p) (upd H p (.dK (mergeK [] kvs)))
theorem ev_there9 {B : Bs} {ctx : Ct} {ms : Ms} {pool ls As : List Arr} (hp : Pool pool) (nd : (ls.map (·.m)).Nodup) (hl : ∀ a ∈ ls, a ∈ pool) (hA : ∀ a ∈ As, a ∈ pool) (h3 : As.length ≤ 3) (h7 : ctx[7]? = some (some (rLet ls))) (h9 : ctx[9]? = some (some (rLst (As.map rArr)))) (hc : 12 < ctx.length) :
    EvM B [] (tCB (rDictP K) (tCons (tOp rCat (LiI.tListItems (tVar 7)) (tLc (iList K (tVar 9)) (gName 12) tYes (tTup (tCons (tOp (rIxT K) (tVar 12) (tC (.int 0))) (tCons (tVar 12) tNil))) [12])) tNil)) ctx ms (rLet (addAs ls As)) ms := by
  have l9 := hp.le nd hl
  have w12 : ∀ r, ((wipeC ctx [12]).set 12 (some r))[12]? = some (some r) := fun r => by
    show ((ctx.set 12 none).set 12 (some r))[12]? = _
    rw [List.getElem?_set_self (by rw [List.length_set]; exact hc)]
  refine ev_is (ev_cb (ea_cons (ev_is (r2 := rLst ((ltD ls ++ ltD As).map fun p => rTup [rI p.1, p.2])) (ev_op (ev_listItems (ev_var h7)) (ev_lcA As (f := rArr) (e := fun a => rTup [rI a.m, rArr a]) (ei_list (ev_var h9)) (by omega) (fun a ha => gm_name (by simp)) fun a ha B => ?_) (rv_cat ?_)) ?_) ea_nil) rc_dictP) ?_
  · exact ev_tup (ea_cons (ev_op (ev_is (ev_var (w12 _)) (show rArr a = rTup [rI a.m, rS a.w, rInts a.c] from rfl)) ev_c rv_ixT0) (ea_cons (ev_var (w12 _)) ea_nil)) (by simp)
  · rw [List.length_map, List.length_map, List.length_map]; omega
  · rw [List.map_append, List.map_map (l := As)]; rfl
  · exact congrArg rDct (merge_all hp nd hl hA)
theorem ev_more {B : Bs} {ctx : Ct} {ms : Ms} {ls As : List Arr} {i j : Nat} (h1 : ctx[i]? = some (some (rLet (addAs ls As)))) (h2 : ctx[j]? = some (some (rLet ls))) : EvM B [] (tOp (rI0 fun i j => .int (i - j)) (tCB (fun xs H Q => ∃ a kvs, xs = [V.ref a] ∧ H a = some (.dK kvs) ∧ Q (.int kvs.length) H) (tCons (tVar i) tNil)) (tCB (fun xs H Q => ∃ a kvs, xs = [V.ref a] ∧ H a = some (.dK kvs) ∧ Q (.int kvs.length) H) (tCons (tVar j) tNil))) ctx ms (rN_ ((addAs ls As).length - ls.length)) ms := by
  refine ev_is (ev_op (ev_cb (ea_cons (ev_var h1) ea_nil) rc_lenD) (ev_cb (ea_cons (ev_var h2) ea_nil) rc_lenD) rv_I0) ?_
  have hle := addAs_le (As := As) (ls := ls)
  rw [List.length_map, List.length_map]
  refine congrArg (fun z => rV (.int z)) ?_
  omega
/-! back and forth -/
theorem ev_size {B : Bs} {L : List Addr} {ctx : Ct} {ms : Ms} {d : Addr} {b : Nat} (hb : b ≤ 1000) (h0 : ctx[0]? = some (some (rV (.ref d)))) (h17 : ctx[17]? = some (some (rN_ b))) (hj : ms[0]? = some (d, .dice)) :
    EvM B L (tCallR spOneOf E0 (tCons (tVar 0) (tCons (tLst (tCons (tC (.int 0)) (tCons (tC (.int 1)) (tCons (tVar 17) (tCons (tCallR spRoll E0 (tCons (tVar 0) (tCons (tOp (rI0 fun i j => .int (i + j)) (tVar 17) (tC (.int 1))) tNil))) tNil))))) tNil))) ctx ms (rEx (fun k : Int => 0 ≤ k) rI) ms := by
  have hr : EvM B L (tCallR spRoll E0 (tCons (tVar 0) (tCons (tOp (rI0 fun i j => .int (i + j)) (tVar 17) (tC (.int 1))) tNil))) ctx ms (rRoll ((b : Int) + 1)) ms :=
    ev_callD (res := fun x : Addr × Int => rRoll x.2) (d, (b : Int) + 1) 0 (ea_cons (ev_var h0) (ea_cons (ev_op (ev_var h17) ev_c rv_I0) ea_nil)) ⟨by show (0 : Int) < (b : Int) + 1; omega, by show (b : Int) + 1 ≤ 100000; omega⟩ rfl rfl hj
  refine ev_imp (ev_oneOf (rs := [rI 0, rI 1, rN_ b, rRoll ((b : Int) + 1)]) h0 (ev_lst (ea_cons ev_c (ea_cons ev_c (ea_cons (ev_var h17) (ea_cons hr ea_nil)))) (by simp)) hj (by simp) (by simp)) fun v G ⟨r, hr, hv⟩ => ?_
  simp only [List.mem_cons, List.not_mem_nil, or_false] at hr
  rcases hr with rfl | rfl | rfl | rfl
  · exact ⟨0, by omega, hv⟩
  · exact ⟨1, by omega, hv⟩
  · exact ⟨(b : Int), by omega, hv⟩
  · obtain ⟨k, ⟨k0, _⟩, hv⟩ := hv; exact ⟨k, k0, hv⟩
theorem ev_min {B : Bs} {L : List Addr} {ctx : Ct} {ms : Ms} {k : Int} {b : Nat} (k0 : 0 ≤ k) (h13 : ctx[13]? = some (some (rI k))) (h17 : ctx[17]? = some (some (rN_ b))) :
    EvM B L (tCB (fun xs H Q => ∃ i j, xs = [.int i, .int j] ∧ Q (.int (if j < i then j else i)) H) (tCons (tVar 13) (tCons (tVar 17) tNil))) ctx ms (rN_ (min k.toNat b)) ms := by
  refine ev_is (ev_cb (ea_cons (ev_var h13) (ea_cons (ev_var h17) ea_nil)) rc_min) (congrArg (fun z => rV (.int z)) ?_)
  split <;> omega
theorem ev_back {B : Bs} {L : List Addr} {ctx : Ct} {ms : Ms} {s : Nat} (x : Ib) (h1 : ctx[1]? = some (some (rV (.ref x.a)))) (h13 : ctx[13]? = some (some (rN_ s))) (hj : ms[1]? = some (x.a, cInb K x.dx x.h x.now)) (ho : x.ok) (hs : s ≤ x.now) :
    EvM B L (tIf (tTest (tOp rNe (tVar 13) (tC (.int 1)))) (tMethK (He.ga K "Inbox") "undo" 1 (spUndo K) E0 (tVar 1) (tCons (tVar 13) tNil)) (tMethR (He.ga K "Inbox") "undo" (spUndo1 K) E0 (tVar 1) tNil)) ctx ms (rN_ (x.now - s)) (ms.set 1 (x.a, cInb K x.dx x.h (x.now - s))) := by
  refine ev_if (b := !decide (V.int (s : Int) = V.int 1)) (et_val (ev_op (ev_var h13) ev_c (rv_ne rfl))) (fun _ => ?_) (fun h => ?_)
  · exact ev_undo x h1 hj (ea_cons (ev_var h13) ea_nil) ho hs
  · have e : V.int (s : Int) = V.int 1 := by simpa using h
    have e : s = 1 := by have := V.int.inj e; omega
    subst e
    exact ev_undo1 x h1 hj ho hs
theorem ev_forth {B : Bs} {L : List Addr} {ctx : Ct} {ms : Ms} {s : Nat} (x : Ib) (h1 : ctx[1]? = some (some (rV (.ref x.a)))) (h13 : ctx[13]? = some (some (rN_ s))) (hj : ms[1]? = some (x.a, cInb K x.dx x.h x.now)) (ho : x.ok) (hs : x.now + s < x.h.length) :
    EvM B L (tIf (tTest (tOp rNe (tVar 13) (tC (.int 1)))) (tMethK (He.ga K "Inbox") "redo" 1 (spRedo K) E0 (tVar 1) (tCons (tVar 13) tNil)) (tMethR (He.ga K "Inbox") "redo" (spRedo1 K) E0 (tVar 1) tNil)) ctx ms (rN_ (x.now + s)) (ms.set 1 (x.a, cInb K x.dx x.h (x.now + s))) := by
  refine ev_if (b := !decide (V.int (s : Int) = V.int 1)) (et_val (ev_op (ev_var h13) ev_c (rv_ne rfl))) (fun _ => ?_) (fun h => ?_)
  · exact ev_redo x h1 hj (ea_cons (ev_var h13) ea_nil) ho hs
  · have e : V.int (s : Int) = V.int 1 := by simpa using h
    have e : s = 1 := by have := V.int.inj e; omega
    subst e
    exact ev_redo1 x h1 hj ho hs
theorem ev_minus {B : Bs} {L : List Addr} {ctx : Ct} {ms : Ms} {i j n s : Nat} (h1 : ctx[i]? = some (some (rN_ n))) (h2 : ctx[j]? = some (some (rN_ s))) (h : s ≤ n) : EvM B L (tOp (rI0 fun i j => .int (i - j)) (tVar i) (tVar j)) ctx ms (rN_ (n - s)) ms := by
  refine ev_is (ev_op (ev_var h1) (ev_var h2) rv_I0) (congrArg (fun z => rV (.int z)) ?_)
  omega
theorem ev_plus {B : Bs} {L : List Addr} {ctx : Ct} {ms : Ms} {i j n s : Nat} (h1 : ctx[i]? = some (some (rN_ n))) (h2 : ctx[j]? = some (some (rN_ s))) : EvM B L (tOp (rI0 fun i j => .int (i + j)) (tVar i) (tVar j)) ctx ms (rN_ (n + s)) ms := by
  refine ev_is (ev_op (ev_var h1) (ev_var h2) rv_I0) (congrArg (fun z => rV (.int z)) ?_)
  omega
theorem ev_ahead {B : Bs} {L : List Addr} {ctx : Ct} {ms : Ms} {i j n : Nat} {h : List Ent} (h1 : ctx[i]? = some (some (rHist h))) (h2 : ctx[j]? = some (some (rN_ n))) (hn : n < h.length) :
    EvM B L (tOp (rI0 fun i j => .int (i - j)) (tOp (rI0 fun i j => .int (i - j)) (tCB (fun xs H Q => ∃ x n, xs = [x] ∧ LenV K x H n ∧ Q (.int n) H) (tCons (tVar i) tNil)) (tC (.int 1))) (tVar j)) ctx ms (rN_ (h.length - 1 - n)) ms := by
  refine ev_is (ev_op (ev_op (ev_cb (ea_cons (ev_var h1) ea_nil) rc_lenL) ev_c rv_I0) (ev_var h2) rv_I0) (congrArg (fun z => rV (.int z)) ?_)
  rw [List.length_map]
  omega
theorem HiO.to {pool : List Arr} {h : List Ent} {n m : Nat} (o : HiO pool h n) (hm : m < h.length) : HiO pool h m := ⟨o.ok, hm, o.sub⟩
theorem way_eq : decide (V.int 4 = V.int 4) = true := decide_eq_true rfl
theorem way_ne : decide (V.int 5 = V.int 4) = false := decide_eq_false fun e => by have := V.int.inj e; omega
theorem sc_law_deed : FnScope ["_law_dice_here", "_law_inbox", "_law_pool", "_law_history", "_law_now", "_law_parts_here", "_law_sees", "_law_letters", "_law_way", "_law_row", "_law_turn", "_law_there", "_law_one", "_law_size", "_law_other", "_law_flag", "_law_told", "_law_back"] ["_law_dice_here", "_law_inbox", "_law_pool", "_law_history", "_law_now"] (defScope s_law_deed) := ⟨rfl, rfl, rfl, by decide +kernel, rfl, by decide +kernel, by decide +kernel⟩
theorem cl_law_deed (T : Tx P w K mg base) : ClQ P w K mg base 8 "_law_deed" (spDeed K) := by
  have c_law_roll := cl_law_roll T
  have c_law_one_of := cl_law_one_of T
  have c_law_parts := cl_law_parts T
  have c_law_rule_of := cl_law_rule_of T
  have c_law_received := cl_law_received T
  have c_law_entry := cl_law_entry T
  have c_law_same := cl_law_same T
  have m_Inbox_use := mt_Inbox_use T
  have mk_Inbox_undo := mk_Inbox_undo_ T
  have m_Inbox_undo := m_Inbox_undo_ T
  have mk_Inbox_redo := mk_Inbox_redo_ T
  have m_Inbox_redo := m_Inbox_redo_ T
  obtain ⟨fd, F⟩ := T.def_ di_law_deed
  refine ⟨_, T.glo fi_glo_law_deed, F.kp, fnQE_of F sc_law_deed (fun _ => rfl) (fun _ _ _ _ _ _ us hl => match us, hl with | [_, _, _, _, _], _ => rfl) fun cdv A outer s H0 vs Q E hr hg z L G hp k S => ?_⟩
  obtain ⟨d, x, pool⟩ := z
  obtain ⟨⟨ho, hpool, hhi, hlen⟩, rfl⟩ := hp
  dsimp only at ho hpool hhi hlen
  have hv : x.now < x.h.length := ho.2
  have he := ho.e
  have hnd := he.ls.nd
  have hl12 : x.e.ls.length ≤ 12 := he.ls.len
  have hsub : ∀ a ∈ x.e.ls, a ∈ pool := hhi.at_
  have S : Sx ⟨[d, x.a], G, H0⟩ [] [some (rV (.ref d)), some (rV (.ref x.a)), some (rLst (pool.map rArr)), some (rHist x.h), some (rN_ x.now), none, none, none, none, none, none, none, none, none, none, none, none, none] [(d, .dice), (x.a, cInb K x.dx x.h x.now)] _ G H0 := S
  have k : ∀ (h' : List Ent) (n' : Nat) ctx σ G' H', Sx ⟨[d, x.a], G, H0⟩ [] ctx [(d, .dice), (x.a, cInb K x.dx h' n')] σ G' H' → HiO pool h' n' → h'.length ≤ x.h.length + 1 → ∀ v, (rHN h' n').ok v G' → Q v H' := fun h' n' ctx σ G' H' S' a b v hv => k (h', n') ctx σ G' H' S' v ⟨⟨a, b⟩, hv⟩
  refine ⟨_, (pss_cons (ps_asg (pe_slice (sl_tupK (K := K)) (pe_ix (ix_listK (K := K)) (pv 3) (pv 4) (fun _ _ => rfl)) po_none (po_some pe_int)) (pg_tupK (K := K) (n := 3) rfl (pgs_cons (pg_name (i := 5) sc_law_deed.nd rfl (Or.inl rfl)) (pgs_cons (pg_name (i := 6) sc_law_deed.nd rfl (Or.inl rfl)) (pgs_cons (pg_name (i := 7) sc_law_deed.nd rfl (Or.inl rfl)) pgs_nil)))))
    (pss_cons (ps_set (i := 8) sc_law_deed.nd rfl (Or.inl rfl) (pe_callR c_law_roll hr (by decide) (by rfl) (pa_cons (pv 0) (pa_cons pe_int pa_nil))))
    (pss_cons (ps_if (pt_cmpR op_lt (pv 8) pe_int (nomark _)) (pss_cons (ps_set (i := 9) sc_law_deed.nd rfl (Or.inl rfl) (pe_ifExp (pt_cmpR (op_neDK (K := K) hr.units) (pv 2) (pe_lst pa_nil) (nomark _)) (pe_lc (own := [("_law_turn", 10)]) rfl sc_law_deed.nd (pi_range1 (by rfl) (T.free fi_free_range) (pa_cons (pe_callR c_law_roll hr (by decide) (by rfl) (pa_cons (pv 0) (pa_cons pe_int pa_nil))) pa_nil)) (blkOk_by (own := [("_law_turn", 10)]) (N := ["_law_dice_here", "_law_inbox", "_law_pool", "_law_history", "_law_now", "_law_parts_here", "_law_sees", "_law_letters", "_law_way", "_law_row", "_law_turn", "_law_there", "_law_one", "_law_size", "_law_other", "_law_flag", "_law_told", "_law_back"]) (sc := defScope s_law_deed) (by decide +kernel)) (fun _ _ _ _ _ => (pg_name (i := 10) sc_law_deed.nd rfl (Or.inl rfl) (Or.inr rfl))) (fun _ _ _ _ _ => pts_nil) (fun _ _ _ _ _ => (pe_callR c_law_one_of hr (by decide) (by rfl) (pa_cons (pv 0) (pa_cons (pv 2) pa_nil))))) (pe_lst pa_nil)))
    (pss_cons (ps_set (i := 11) sc_law_deed.nd rfl (Or.inl rfl) (pe_callTy (T := "dict") (call_dictPK (K := K) rfl) (by rfl) (T.free fi_free_dict) (by decide +kernel) (pa_cons (pe_op op_cat (LiI.pe_listItems rfl (pv 7) (by rfl) (T.free fi_free_list) (by decide +kernel)) (pe_lc (own := [("_law_one", 12)]) rfl sc_law_deed.nd (pi_listK (K := K) (pv 9)) (blkOk_by (own := [("_law_one", 12)]) (N := ["_law_dice_here", "_law_inbox", "_law_pool", "_law_history", "_law_now", "_law_parts_here", "_law_sees", "_law_letters", "_law_way", "_law_row", "_law_turn", "_law_there", "_law_one", "_law_size", "_law_other", "_law_flag", "_law_told", "_law_back"]) (sc := defScope s_law_deed) (by decide +kernel)) (fun _ _ _ _ _ => (pg_name (i := 12) sc_law_deed.nd rfl (Or.inl rfl) (Or.inr rfl))) (fun _ _ _ _ _ => pts_nil) (fun _ _ _ _ _ => (pe_tup (pa_cons (pe_ix (ix_tupK (K := K)) (pv 12) pe_int (fun _ _ => rfl)) (pa_cons (pv 12) pa_nil)))))) pa_nil)))
    (pss_cons (ps_set (i := 13) sc_law_deed.nd rfl (Or.inl rfl) (pe_op op_sub (pe_callB (id := "len") call_lenD (by rfl) (T.free fi_free_len) (by decide +kernel) (pa_cons (pv 11) pa_nil)) (pe_callB (id := "len") call_lenD (by rfl) (T.free fi_free_len) (by decide +kernel) (pa_cons (pv 7) pa_nil))))
    (pss_cons (ps_if (pt_cmpR op_ne (pe_callB (id := "repr") (call_reprK (K := K) hr.units hg) (by rfl) (T.free fi_free_repr) (by decide +kernel) (pa_cons (pe_callR c_law_received hr (by decide) (by rfl) (pa_cons (pv 1) (pa_cons (pv 9) pa_nil))) pa_nil)) (pe_callB (id := "repr") (call_reprK (K := K) hr.units hg) (by rfl) (T.free fi_free_repr) (by decide +kernel) (pa_cons (pv 13) pa_nil)) (nomark _)) (pss_one (ps_ret pe_non)) pss_nil)
    (pss_one (ps_ret (pe_ifExp (pt_cmpR op_gt (pv 13) pe_int (nomark _)) (pe_tup (pa_cons (pe_op op_cat (pe_slice (sl_listK (K := K)) (pv 3) po_none (po_some (pe_op op_add (pv 4) pe_int))) (pe_lst (pa_cons (pe_callR c_law_entry hr (by decide) (by rfl) (pa_cons (pv 5) (pa_cons (pv 6) (pa_cons (pv 11) pa_nil)))) pa_nil))) (pa_cons (pe_op op_add (pv 4) pe_int) pa_nil))) (pe_tup (pa_cons (pv 3) (pa_cons (pv 4) pa_nil)))))))))) pss_nil)
    (pss_cons (ps_if (pt_cmpR op_eq (pv 8) pe_int (nomark _)) (pss_cons (ps_set (i := 14) sc_law_deed.nd rfl (Or.inl rfl) (pe_callR c_law_one_of hr (by decide) (by rfl) (pa_cons (pv 0) (pa_cons (pe_lst (pa_cons (pv 5) (pa_cons (pe_slice (sl_listK (K := K)) (pv 5) (po_some pe_int) po_none) (pa_cons (pe_callR c_law_parts hr (by decide) (by rfl) (pa_cons (pv 0) (pa_cons pe_int pa_nil))) (pa_cons (pe_callR c_law_parts hr (by decide) (by rfl) (pa_cons (pv 0) (pa_cons pe_int pa_nil))) pa_nil))))) pa_nil))))
    (pss_cons (ps_set (i := 15) sc_law_deed.nd rfl (Or.inl rfl) (pe_cmpR op_eq (pe_callR c_law_roll hr (by decide) (by rfl) (pa_cons (pv 0) (pa_cons pe_int pa_nil))) pe_int (nomark _)))
    (pss_cons (ps_set (i := 16) sc_law_deed.nd rfl (Or.inl rfl) (pe_mt (T.cls fi_cls_Inbox) m_Inbox_use hr (by decide) (pv 1) (pa_cons (pe_callR c_law_rule_of hr (by decide) (by rfl) (pa_cons (pv 14) (pa_cons (pv 15) pa_nil))) pa_nil)))
    (pss_cons (ps_if (PW.pt (pw_and (pt_cmpR op_eq (pv 15) (pv 6) (nomark _)) (pw_and1 (pt_val (pe_callR c_law_same hr (by decide) (by rfl) (pa_cons (pv 14) (pa_cons (pv 5) pa_nil))))))) (pss_one (ps_ret (pe_ifExp (pt_cmpR op_eq (pv 16) (pv 4) (nomark _)) (pe_tup (pa_cons (pv 3) (pa_cons (pv 4) pa_nil))) pe_non))) pss_nil)
    (pss_one (ps_ret (pe_ifExp (pt_cmpR op_eq (pv 16) (pe_op op_add (pv 4) pe_int) (nomark _)) (pe_tup (pa_cons (pe_op op_cat (pe_slice (sl_listK (K := K)) (pv 3) po_none (po_some (pe_op op_add (pv 4) pe_int))) (pe_lst (pa_cons (pe_callR c_law_entry hr (by decide) (by rfl) (pa_cons (pv 14) (pa_cons (pv 15) (pa_cons (pv 7) pa_nil)))) pa_nil))) (pa_cons (pe_op op_add (pv 4) pe_int) pa_nil))) pe_non))))))) pss_nil)
    (pss_cons (ps_set (i := 17) sc_law_deed.nd rfl (Or.inl rfl) (pe_ifExp (pt_cmpR op_eq (pv 8) pe_int (nomark _)) (pv 4) (pe_op op_sub (pe_op op_sub (pe_callB (id := "len") (call_lenK (K := K)) (by rfl) (T.free fi_free_len) (by decide +kernel) (pa_cons (pv 3) pa_nil)) pe_int) (pv 4))))
    (pss_cons (ps_set (i := 13) sc_law_deed.nd rfl (Or.inl rfl) (pe_callR c_law_one_of hr (by decide) (by rfl) (pa_cons (pv 0) (pa_cons (pe_lst (pa_cons pe_int (pa_cons pe_int (pa_cons (pv 17) (pa_cons (pe_callR c_law_roll hr (by decide) (by rfl) (pa_cons (pv 0) (pa_cons (pe_op op_add (pv 17) pe_int) pa_nil))) pa_nil))))) pa_nil))))
    (pss_cons (ps_set (i := 13) sc_law_deed.nd rfl (Or.inl rfl) (pe_callB (id := "min") (call_min2 rfl) (by rfl) (T.free fi_free_min) (by decide +kernel) (pa_cons (pv 13) (pa_cons (pv 17) pa_nil))))
    (pss_cons (ps_if (pt_cmpR op_eq (pv 8) pe_int (nomark _)) (pss_cons (ps_set (i := 16) sc_law_deed.nd rfl (Or.inl rfl) (pe_ifExp (pt_cmpR op_ne (pv 13) pe_int (nomark _)) (pe_mtK (T.cls fi_cls_Inbox) mk_Inbox_undo hr (by decide) (pv 1) (pk_cons (pv 13) pk_nil)) (pe_mt0 (T.cls fi_cls_Inbox) m_Inbox_undo hr (by decide) (pv 1))))
    (pss_one (ps_set (i := 4) sc_law_deed.nd rfl (Or.inl rfl) (pe_op op_sub (pv 4) (pv 13))))) (pss_cons (ps_set (i := 16) sc_law_deed.nd rfl (Or.inl rfl) (pe_ifExp (pt_cmpR op_ne (pv 13) pe_int (nomark _)) (pe_mtK (T.cls fi_cls_Inbox) mk_Inbox_redo hr (by decide) (pv 1) (pk_cons (pv 13) pk_nil)) (pe_mt0 (T.cls fi_cls_Inbox) m_Inbox_redo hr (by decide) (pv 1))))
    (pss_one (ps_set (i := 4) sc_law_deed.nd rfl (Or.inl rfl) (pe_op op_add (pv 4) (pv 13))))))
    (pss_one (ps_ret (pe_ifExp (pt_cmpR op_eq (pe_callB (id := "repr") (call_reprK (K := K) hr.units hg) (by rfl) (T.free fi_free_repr) (by decide +kernel) (pa_cons (pv 16) pa_nil)) (pe_callB (id := "repr") (call_reprK (K := K) hr.units hg) (by rfl) (T.free fi_free_repr) (by decide +kernel) (pa_cons (pv 4) pa_nil)) (nomark _)) (pe_tup (pa_cons (pv 3) (pa_cons (pv 4) pa_nil))) pe_non))))))))))), ?_⟩
  try dsimp only [L2.cxOf]
  refine st_unp (ms1 := [(d, .dice), (x.a, cInb K x.dx x.h x.now)]) (ev_headX x (i := 3) (j := 4) rfl rfl hv) (gm_tup3 (vs := [5, 6, 7]) (by simp) (by simp) (by simp)) S fun σ1 G1 H1 e1 S1 => ?_
  dsimp only
  refine st_setP (i := 8) (rRoll 6) (ev_roll (j := 0) rfl rfl (by decide) (by decide)) S1 fun σ2 G2 H2 e2 S2 => ?_
  dsimp only
  obtain ⟨way, ⟨w0, w6⟩, S3⟩ := S2.open_ (i := 8) rfl
  refine st_ifP (decide (way < 3)) (et_val (ev_op (ev_var rfl) ev_c rv_I0)) S3 fun G4 H4 e4 S4 => ⟨fun hb => ?_, fun hb => ?_⟩
  · -- arrivals
    refine st_setP (i := 9) (rRow pool) (ev_row hpool rfl rfl rfl) S4 fun σ5 G5 H5 e5 S5 => ?_
    dsimp only
    obtain ⟨As, ⟨hAs, h3⟩, S6⟩ := S5.open_ (i := 9) rfl
    have hle := addAs_le (As := As) (ls := x.e.ls)
    have hnd' : ((addAs x.e.ls As).map (·.m)).Nodup := addAs_nd hnd
    have hsub' : ∀ a ∈ addAs x.e.ls As, a ∈ pool := fun a ha => (addAs_sub ha).elim (hsub a) (hAs a)
    have hls' : okLs (addAs x.e.ls As) := hpool.ls hnd' hsub'
    have hl12' : (addAs x.e.ls As).length ≤ 12 := hls'.len
    have he' : okE ⟨x.e.ps, x.e.se, addAs x.e.ls As⟩ := ⟨he.ps, hls'⟩
    have hy : (⟨x, As⟩ : RecX).ok := ⟨ho, fun a ha => hpool.ok a (hAs a ha), fun a ha b hb e => hpool.eq (hAs a ha) (hb.elim (hsub b) (hAs b)) e, hls', Nat.le_trans h3 (by omega)⟩
    have hmany : (addAs x.e.ls As).length - x.e.ls.length ≤ 1000 := by omega
    refine st_setP (i := 11) (rLet (addAs x.e.ls As)) (ev_there9 hpool hnd hsub hAs h3 rfl rfl (by show 12 < 18; omega)) S6 fun σ7 G7 H7 e7 S7 => ?_
    dsimp only
    refine st_setP (i := 13) (rN_ ((addAs x.e.ls As).length - x.e.ls.length)) (ev_more rfl rfl) S7 fun σ8 G8 H8 e8 S8 => ?_
    dsimp only
    by_cases hgt : 0 < (addAs x.e.ls As).length - x.e.ls.length
    · refine st_ifF (ms1 := [(d, .dice), (x.a, cInb K x.dx (x.h.take (x.now + 1) ++ [⟨x.e.ps, x.e.se, addAs x.e.ls As⟩]) (x.now + 1))]) ?_ S8 fun G9 H9 e9 S9 => ?_
      · exact et_neR (n := (addAs x.e.ls As).length - x.e.ls.length) (ev_recYes x As (i := 1) (v := 9) (j := 1) rfl rfl rfl hy h3 hgt) (ev_var rfl) hmany
      dsimp only [tNext]
      refine st_retP (rHN (x.h.take (x.now + 1) ++ [⟨x.e.ps, x.e.se, addAs x.e.ls As⟩]) (x.now + 1)) (ev_if (b := true) (et_pos (n := (addAs x.e.ls As).length - x.e.ls.length) (ev_var rfl) hgt) (fun _ => ev_next (i := 3) (j := 4) rfl rfl hv hlen (ev_call (⟨x.e.ps, x.e.se, addAs x.e.ls As⟩ : Ent) (ea_cons (ev_var rfl) (ea_cons (ev_var rfl) (ea_cons (ev_var rfl) ea_nil))) ⟨he', rfl⟩)) fun h => nomatch h) S9 fun v G' H' e S' hv' => k _ _ _ _ G' H' S' (hhi.turn he' (fun m hm => addAs_mem hm) hlen hsub') take_len v hv'
    · refine st_ifF (ms1 := [(d, .dice), (x.a, cInb K x.dx x.h x.now)]) ?_ S8 fun G9 H9 e9 S9 => ?_
      · exact et_neR (n := (addAs x.e.ls As).length - x.e.ls.length) (ev_recNo x As (i := 1) (v := 9) (j := 1) rfl rfl rfl hy h3 hgt) (ev_var rfl) hmany
      dsimp only [tNext]
      refine st_retP (rHN x.h x.now) (ev_if (b := false) (et_npos (n := (addAs x.e.ls As).length - x.e.ls.length) (ev_var rfl) hgt) (fun h => nomatch h) fun _ => ev_tup (ea_cons (ev_var rfl) (ea_cons (ev_var rfl) ea_nil)) (by simp)) S9 fun v G' H' e S' hv' => k _ _ _ _ G' H' S' hhi (Nat.le_succ _) v hv'
  · dsimp only [tNext]
    have hb : ¬ way < 3 := of_decide_eq_false hb
    refine st_ifP (decide (V.int way = V.int 3)) (et_val (ev_op (ev_var rfl) ev_c (rv_eq rfl))) S4 fun G5 H5 e5 S5 => ⟨fun hb2 => ?_, fun hb2 => ?_⟩
    · -- a rule
      refine st_setP (i := 14) rQs (ev_others he.ps rfl rfl rfl) S5 fun σ6 G6 H6 e6 S6 => ?_
      dsimp only
      obtain ⟨qs, hqs, S7⟩ := S6.open_ (i := 14) rfl
      refine st_setP (i := 15) (rEx (fun _ : Bool => True) rB) (ev_flag (i := 0) (j := 0) rfl rfl) S7 fun σ8 G8 H8 e8 S8 => ?_
      dsimp only
      obtain ⟨fl, _, S9⟩ := S8.open_ (i := 15) rfl
      by_cases hsm : sameR qs fl x.e.ps x.e.se = true
      · refine st_setP (i := 16) (rN_ x.now) ?_ S9 fun σ10 G10 H10 e10 S10 => ?_
        · exact ev_useEq x (i := 1) (j := 1) rfl rfl (ea_cons (ev_ruleOf rfl rfl hqs) ea_nil) ho hqs hsm
        dsimp only
        refine st_ifT (ms1 := [(d, .dice), (x.a, cInb K x.dx x.h x.now)]) (et_b (et_and (et_val (ev_op (ev_var rfl) (ev_var rfl) (rv_eq rfl))) fun _ => et_B (ev_call (qs, x.e.ps) (ea_cons (ev_var rfl) (ea_cons (ev_var rfl) ea_nil)) ⟨hqs, he.ps⟩)) (same_eq.trans hsm)) S10 fun G11 H11 e11 S11 => ?_
        refine st_retP (rHN x.h x.now) (ev_if (b := true) (et_eqN (n := x.now) (ev_var rfl) (ev_var rfl)) (fun _ => ev_tup (ea_cons (ev_var rfl) (ea_cons (ev_var rfl) ea_nil)) (by simp)) fun h => nomatch h) S11 fun v G' H' e S' hv' => k _ _ _ _ G' H' S' hhi (Nat.le_succ _) v hv'
      · have he' : okE ⟨qs, fl, x.e.ls⟩ := ⟨hqs, he.ls⟩
        refine st_set (i := 16) (r := rN_ (x.now + 1)) (ms1 := [(d, .dice), (x.a, cInb K x.dx (x.h.take (x.now + 1) ++ [⟨qs, fl, x.e.ls⟩]) (x.now + 1))]) ?_ S9 fun σ10 G10 H10 e10 S10 => ?_
        · exact ev_useNe x (i := 1) (j := 1) rfl rfl (ea_cons (ev_ruleOf rfl rfl hqs) ea_nil) ho hqs hsm
        dsimp only
        refine st_ifFP (et_b (et_and (et_val (ev_op (ev_var rfl) (ev_var rfl) (rv_eq rfl))) fun _ => et_B (ev_call (qs, x.e.ps) (ea_cons (ev_var rfl) (ea_cons (ev_var rfl) ea_nil)) ⟨hqs, he.ps⟩)) (same_eq.trans (by simpa using hsm))) S10 fun G11 H11 e11 S11 => ?_
        dsimp only [tNext]
        refine st_retP (rHN (x.h.take (x.now + 1) ++ [⟨qs, fl, x.e.ls⟩]) (x.now + 1)) (ev_if (b := true) (et_eqN (n := x.now + 1) (ev_var rfl) (ev_inc (n := x.now) (ev_var rfl))) (fun _ => ev_next (i := 3) (j := 4) rfl rfl hv hlen (ev_call (⟨qs, fl, x.e.ls⟩ : Ent) (ea_cons (ev_var rfl) (ea_cons (ev_var rfl) (ea_cons (ev_var rfl) ea_nil))) ⟨he', rfl⟩)) fun h => nomatch h) S11 fun v G' H' e S' hv' => k _ _ _ _ G' H' S' (hhi.turn he' (fun m hm => hm) hlen hsub) take_len v hv'
    · -- back or forth
      dsimp only [tNext]
      have hb2 : ¬ way = 3 := fun e => by rw [e] at hb2; cases hb2
      have hw : way = 4 ∨ way = 5 := by omega
      rcases hw with rfl | rfl
      · refine st_setP (i := 17) (rN_ x.now) ?_ S5 fun σ6 G6 H6 e6 S6 => ?_
        · exact ev_if (b := true) (et_b (et_val (ev_op (ev_var rfl) ev_c (rv_eq rfl))) way_eq) (fun _ => ev_var rfl) fun h => nomatch h
        dsimp only
        refine st_setP (i := 13) (rEx (fun k : Int => 0 ≤ k) rI) ?_ S6 fun σ7 G7 H7 e7 S7 => ?_
        · exact ev_size (b := x.now) (by omega) rfl rfl rfl
        dsimp only
        obtain ⟨k0, hk0, S8⟩ := S7.open_ (i := 13) rfl
        refine st_setP (i := 13) (rN_ (min k0.toNat x.now)) ?_ S8 fun σ9 G9 H9 e9 S9 => ?_
        · exact ev_min (b := x.now) hk0 rfl rfl
        dsimp only
        have hs : min k0.toNat x.now ≤ x.now := Nat.min_le_right _ _
        generalize min k0.toNat x.now = s at hs S9
        refine st_ifT (ms1 := [(d, .dice), (x.a, cInb K x.dx x.h x.now)]) ?_ S9 fun G10 H10 e10 S10 => ?_
        · exact et_b (et_val (ev_op (ev_var rfl) ev_c (rv_eq rfl))) way_eq
        refine st_set (i := 16) (r := rN_ (x.now - s)) (ms1 := [(d, .dice), (x.a, cInb K x.dx x.h (x.now - s))]) ?_ S10 fun σ11 G11 H11 e11 S11 => ?_
        · exact ev_back x rfl rfl rfl ho hs
        dsimp only
        refine st_setP (i := 4) (rN_ (x.now - s)) ?_ S11 fun σ12 G12 H12 e12 S12 => ?_
        · exact ev_minus (n := x.now) (s := s) rfl rfl hs
        dsimp only
        refine st_retP (rHN x.h (x.now - s)) ?_ S12 fun v G' H' e S' hv' => k _ _ _ _ G' H' S' (hhi.to (by omega)) (Nat.le_succ _) v hv'
        exact ev_if (b := true) (et_eqR (n := x.now - s) (ev_var rfl) (ev_var rfl) (by omega)) (fun _ => ev_tup (ea_cons (ev_var rfl) (ea_cons (ev_var rfl) ea_nil)) (by simp)) fun h => nomatch h
      · refine st_setP (i := 17) (rN_ (x.h.length - 1 - x.now)) ?_ S5 fun σ6 G6 H6 e6 S6 => ?_
        · exact ev_if (b := false) (et_b (et_val (ev_op (ev_var rfl) ev_c (rv_eq rfl))) way_ne) (fun h => nomatch h) fun _ => ev_ahead (h := x.h) (n := x.now) rfl rfl hv
        dsimp only
        refine st_setP (i := 13) (rEx (fun k : Int => 0 ≤ k) rI) ?_ S6 fun σ7 G7 H7 e7 S7 => ?_
        · exact ev_size (b := x.h.length - 1 - x.now) (by omega) rfl rfl rfl
        dsimp only
        obtain ⟨k0, hk0, S8⟩ := S7.open_ (i := 13) rfl
        refine st_setP (i := 13) (rN_ (min k0.toNat (x.h.length - 1 - x.now))) ?_ S8 fun σ9 G9 H9 e9 S9 => ?_
        · exact ev_min (b := x.h.length - 1 - x.now) hk0 rfl rfl
        dsimp only
        have hs : x.now + min k0.toNat (x.h.length - 1 - x.now) < x.h.length := by omega
        generalize min k0.toNat (x.h.length - 1 - x.now) = s at hs S9
        refine st_ifFP ?_ S9 fun G10 H10 e10 S10 => ?_
        · exact et_b (et_val (ev_op (ev_var rfl) ev_c (rv_eq rfl))) way_ne
        refine st_set (i := 16) (r := rN_ (x.now + s)) (ms1 := [(d, .dice), (x.a, cInb K x.dx x.h (x.now + s))]) ?_ S10 fun σ11 G11 H11 e11 S11 => ?_
        · exact ev_forth x rfl rfl rfl ho hs
        dsimp only
        refine st_setP (i := 4) (rN_ (x.now + s)) ?_ S11 fun σ12 G12 H12 e12 S12 => ?_
        · exact ev_plus (n := x.now) (s := s) rfl rfl
        dsimp only
        refine st_retP (rHN x.h (x.now + s)) ?_ S12 fun v G' H' e S' hv' => k _ _ _ _ G' H' S' (hhi.to hs) (Nat.le_succ _) v hv'
        exact ev_if (b := true) (et_eqR (n := x.now + s) (ev_var rfl) (ev_var rfl) (by omega)) (fun _ => ev_tup (ea_cons (ev_var rfl) (ea_cons (ev_var rfl) ea_nil)) (by simp)) fun h => nomatch h
end
end K62
set_option maxHeartbeats 4000000
/-! K62Gh: what a whole history needs. -/
namespace K62
open PySem PySem.Spec PyProof.Rows L2
section
variable {B : Bs} {L : List Addr} {ctx : Ct} {ms ms1 ms2 : Ms} {te ta tb : TE} {tl tk : TA} {wi : TI} {g : TG} {r : Rp} {K : PySem.W.Frag} {E : XK} {D : Ends} {σ : L2.St} {G H : Hp} {Q : VK}
/-- a loop over a drawn number of turns -/
theorem st_forX {γ ι : Type} {P : γ → Prop} {rsf : γ → List Rp} {tb : TS} (hi : EvIx B L wi ctx ms P rsf ms1) (S : Sx B L ctx ms σ G H) (inv : Nat → ι → Prop) (cf : ι → Ct) (mf : ι → Ms) (a0 : ι) (h0 : inv 0 a0)
    (start : ∀ B σ G H, Sx B L ctx ms1 σ G H → Sx B L (cf a0) (mf a0) σ G H)
    (turn : ∀ (c : γ), P c → ∀ (B1 : Bs) (G1 H1 : Hp) (i : Nat) (r : Rp) (a : ι) (σ' : L2.St) (G' H' : Hp), Same G G1 → (rsf c)[i]? = some r → inv i a → Same G1 G' → (∀ d ∈ L, H' d = H1 d) → (∀ {ctx' ms' σ' G' H'}, Sx B1 L ctx' ms' σ' G' H' → Sx B L ctx' ms' σ' G' H') → (∀ {ctx' ms' σ' G' H'}, Sx B1 L ctx' ms' σ' G' H' → Same G1 G') → Sx B1 L (cf a) (mf a) σ' G' H' →
      ∃ (ctx1 : Ct) (vs : List Nat), GM g r (cf a) ctx1 vs ∧ ∀ σ2 G2 H2, Same G' G2 → Sx B1 L ctx1 (mf a) σ2 G2 H2 →
        tb { D with nx := fun σ H => ∃ a' G', inv (i + 1) a' ∧ Sx B1 L (cf a') (mf a') σ G' H, ct := fun σ H => ∃ a' G', inv (i + 1) a' ∧ Sx B1 L (cf a') (mf a') σ G' H, bk := D.nx } σ2 H2)
    (done : ∀ c a σ' G' H', P c → inv (rsf c).length a → Same G G' → Sx B L (cf a) (mf a) σ' G' H' → D.nx σ' H') : tFor wi g tb D σ H := hi σ G H S _ fun c J G1 H1 pc e1 S1 src => by
  let B1 : Bs := ⟨ms1.map (·.1), G1, H1⟩
  have un : ∀ {ctx' ms' σ' G' H'}, Sx B1 L ctx' ms' σ' G' H' → Sx B L ctx' ms' σ' G' H' := fun S' => S1.un S'
  have sm : ∀ {ctx' ms' σ' G' H'}, Sx B1 L ctx' ms' σ' G' H' → Same G1 G' := fun S' => S1.same_ S'
  have lk : ∀ {ctx' ms' σ' G' H'}, Sx B1 L ctx' ms' σ' G' H' → ∀ d ∈ L, H' d = H1 d := fun S' => S1.locks S'
  refine ⟨fun i m σ H => m = (rsf c).length - i ∧ i ≤ (rsf c).length ∧ ∃ a' G', inv i a' ∧ Sx B1 L (cf a') (mf a') σ G' H, ⟨(rsf c).length, by simp, Nat.zero_le _, a0, G1, h0, start _ _ _ _ S1.re⟩, ?_⟩
  rintro i m σ' H' ⟨rfl, hle, a, G', hinv, S'⟩
  by_cases hlt : i < (rsf c).length
  · have hr : (rsf c)[i]? = some (rsf c)[i] := List.getElem?_eq_getElem hlt
    obtain ⟨go, yld⟩ := src.go (sm S') (lk S') S' hr
    refine .inr ⟨go, fun σ H => ∃ a' G', inv (i + 1) a' ∧ Sx B1 L (cf a') (mf a') σ G' H, fun σ' H'' w => ⟨(rsf c).length - (i + 1), by omega, rfl, hlt, w⟩, fun x H2 y => ?_⟩
    obtain ⟨G2, e2, S3, hx⟩ := yld x H2 y
    obtain ⟨ctx1, vs, hg, body⟩ := turn c pc B1 G1 H1 i _ a σ' G2 H2 e1 hr hinv (sm S3) (lk S3) un sm S3
    exact hg B1 L _ σ' G2 H2 x S3 hx _ fun σ3 S4 _ => body σ3 G2 H2 (Same.refl G2) S4
  · have e : i = (rsf c).length := by omega
    subst e
    exact .inl ⟨src.stop (sm S') (lk S') S' (Nat.le_refl _), done c a σ' G' H' pc hinv (e1.trans (sm S')) (un S')⟩
/-- a, b, c = Inbox(..), .., 0 -/
theorem st_par3I {i j l : Nat} {te2 : TE} {z : InX} {r2 : Rp} (h : EvA B [] tl ctx ms (rRule K z.ps z.se :: z.As.map rArr) ms1) (ho : z.ok) (he : ∀ y dx, EvM B [] te2 ctx ((y, cInb K dx z.h z.n) :: ms1) r2 ((y, cInb K dx z.h z.n) :: ms1)) (S : Sx B [] ctx ms σ G H)
    (k : ∀ y dx σ' G' H', Same G G' → Sx B [] (((ctx.set i (some (rV (.ref y)))).set j (some r2)).set l (some (rN_ 0))) ((y, cInb K dx z.h z.n) :: ms1) σ' G' H' → D.nx σ' H') : tPar3 i j l (tCons (StX.tMakeR (He.ga K "Inbox") (spInbI K) E tl) (tCons te2 (tCons (tC (.int 0)) tNil))) D σ H := by
  unfold tPar3 tCons
  refine ev_mkInbM h ho S fun y dx G1 H1 e1 S1 => ?_
  refine he y dx σ G1 H1 S1 _ fun v2 G2 H2 e2 S2 hv2 => ⟨.ref y, v2, .int 0, rfl, k y dx _ G2 H2 (e1.trans e2) (((S2.set rfl).set hv2).set rfl)⟩
/-- found = deed(..) -/
theorem st_deed {d : Addr} {x : Ib} {pool : List Arr} (h0 : ctx[0]? = some (some (rV (.ref d)))) (h4 : ctx[4]? = some (some (rV (.ref x.a)))) (h3 : ctx[3]? = some (some (rLst (pool.map rArr)))) (h5 : ctx[5]? = some (some (rHist x.h))) (h6 : ctx[6]? = some (some (rN_ x.now))) (ho : (⟨d, x, pool⟩ : DeX).ok)
    (S : Sx B [] ctx [(d, .dice), (x.a, cInb K x.dx x.h x.now)] σ G H) (k : ∀ h' n' σ' G' H', Same G G' → HiO pool h' n' → h'.length ≤ x.h.length + 1 → Sx B [] (ctx.set 8 (some (rHN h' n'))) [(d, .dice), (x.a, cInb K x.dx h' n')] σ' G' H' → D.nx σ' H') :
    tAsg (tCallR (spDeed K) E0 (tCons (tVar 0) (tCons (tVar 4) (tCons (tVar 3) (tCons (tVar 5) (tCons (tVar 6) tNil)))))) (gName 8) D σ H := by
  unfold tAsg tCallR
  refine (ea_cons (ev_var h0) (ea_cons (ev_var h4) (ea_cons (ev_var h3) (ea_cons (ev_var h5) (ea_cons (ev_var h6) ea_nil))))) σ G H S _ fun vs G1 H1 e1 S1 hal => ⟨⟨d, x, pool⟩, [], ⟨ho, rfl⟩, ?_⟩
  have S1' : Sx B [] ctx ([(d, .dice), (x.a, cInb K x.dx x.h x.now)] ++ []) σ G1 H1 := S1
  refine pr_useE S1' hal fun b v G2 H2 e2 S2 hv => ?_
  exact k b.1 b.2 _ G2 H2 (e1.trans e2) hv.1.1 hv.1.2 (S2.set hv.2)
theorem rv_isT {rs : List Rp} : RvM B L (fun x y H Q => y = .non ∧ Q (.bl (decide (x = .non))) H) (rTup rs) rN ctx ms (rB false) ms := fun σ G H x y S ⟨a, xs, ex, _, _⟩ hy Q k => by
  subst ex
  exact ⟨hy, k _ G H (Same.refl G) S (by show V.bl _ = V.bl _; rw [decide_eq_false (fun z => nomatch z)])⟩
/-- is(inbox, history, now) -/
theorem ev_isQ {i j l : Nat} {tn : TE} (x : Ib) (h1 : ctx[i]? = some (some (rV (.ref x.a)))) (h2 : ctx[j]? = some (some (rHist x.h))) (h3 : EvM B [] tn ctx ms (rN_ x.now) ms) (hj : ms[l]? = some (x.a, cInb K x.dx x.h x.now)) (ho : x.ok) :
    EvM B [] (tCallR (spIs K) E0 (tCons (tVar i) (tCons (tVar j) (tCons tn tNil)))) ctx ms (rB true) ms := ev_callM (res := fun _ => rB true) x l (ea_cons (ev_var h1) (ea_cons (ev_var h2) (ea_cons h3 ea_nil))) ⟨ho, rfl⟩ rfl rfl hj
theorem ev_four {d : Addr} {i j : Nat} (hc : ctx[i]? = some (some (rV (.ref d)))) (hj : ms[j]? = some (d, .dice)) : EvM B L (tOp (rI0 fun i j => .int (i + j)) (tC (.int 4)) (tRoll i 11)) ctx ms (rEx (fun c : Nat => c ≤ 14) rN_) ms := by
  refine ev_op ev_c (ev_roll hc hj (by decide) (by decide)) (rv_exR fun k ⟨k0, k1⟩ => fun σ G H x y S hx hy Q q => rv_I0 σ G H x y S hx hy Q fun v G' H' e S' hv => q v G' H' e S' ⟨(4 + k).toNat, by omega, ?_⟩)
  have hv : v = V.int (4 + k) := hv
  show v = V.int ((4 + k).toNat : Int)
  rw [hv]
  congr 1
  omega
theorem ev_anyA {d : Addr} {i j : Nat} (hc : ctx[i]? = some (some (rV (.ref d)))) (hj : ms[j]? = some (d, .dice)) : EvM B L (tCallR spAny E0 (tCons (tVar i) (tCons (tC (.int 9)) tNil))) ctx ms (rEx okPool fun As => rLst (As.map rArr)) ms :=
  ev_callD (res := fun _ : Addr × Nat => rEx okPool fun As => rLst (As.map rArr)) (d, 9) j (ea_cons (ev_var hc) (ea_cons ev_c ea_nil)) (Nat.le_refl 9) rfl rfl hj
/-- [letters[m] for m in letters] -/
theorem ev_items9 {ls : List Arr} (h9 : ctx[9]? = some (some (rLet ls))) (hl : 11 < ctx.length) (nd : (ls.map (·.m)).Nodup) (h12 : ls.length ≤ 12) : EvM B [] (tLockE (tLc (iKeys (tVar 9)) (gName 11) tYes (tDGet (tVar 9) (tVar 11)) [11])) ctx ms (rLst (ls.map rArr)) ms := by
  refine ev_lock (turns_slot (i := 9) (r := rLet ls) (r' := fun d => rDctAt d (ls.map fun a => (a.m, rArr a))) h9 fun v G h => rDct_at h) (ms1' := fun _ => ms) (fun d B => ?_) (fun {B σ G H} d S => ?_)
  · have a9 : (ctx.set 9 (some (rDctAt d (ls.map fun a => (a.m, rArr a)))))[9]? = some (some (rDctAt d (ls.map fun a => (a.m, rArr a)))) := List.getElem?_set_self (by omega)
    have w9 : ∀ r, ((wipeC (ctx.set 9 (some (rDctAt d (ls.map fun a => (a.m, rArr a))))) [11]).set 11 (some r))[9]? = some (some (rDctAt d (ls.map fun a => (a.m, rArr a)))) := fun r => by
      show (((ctx.set 9 (some (rDctAt d (ls.map fun a => (a.m, rArr a))))).set 11 none).set 11 (some r))[9]? = _
      rw [List.getElem?_set_ne (by omega), List.getElem?_set_ne (by omega)]
      exact a9
    have w11 : ∀ r, ((wipeC (ctx.set 9 (some (rDctAt d (ls.map fun a => (a.m, rArr a))))) [11]).set 11 (some r))[11]? = some (some r) := fun r => by
      show (((ctx.set 9 (some (rDctAt d (ls.map fun a => (a.m, rArr a))))).set 11 none).set 11 (some r))[11]? = _
      exact List.getElem?_set_self (by rw [List.length_set, List.length_set]; exact hl)
    refine ev_lcA ls (f := fun a => rI a.m) (e := rArr) (ei_is (ei_keys (ev_var a9)) (by rw [List.map_map]; rfl)) (by omega) (fun a ha => gm_name (by simp)) fun a ha B => ?_
    exact ev_dget (r := rArr a) (ev_imp (ev_var (w9 _)) fun v G h => rDctAt_to h) (ev_var (w11 _)) (lookA (f := rArr) nd ha)
  · have s := S.turn (i := 9) (r := rDctAt d (ls.map fun a => (a.m, rArr a))) (r' := rLet ls) (List.getElem?_set_self (by omega)) fun v h => rDctAt_to h
    rw [List.set_set, set_same h9] at s
    exact s
theorem perm_of_map {α β : Type} {f : α → β} {ys zs : List β} (h : ys.Perm zs) : ∀ {ls : List α}, zs = ls.map f → ∃ As : List α, As.Perm ls ∧ ys = As.map f := by
  induction h with
  | nil => intro ls e; exact ⟨[], by rw [List.map_eq_nil_iff.mp e.symm], rfl⟩
  | cons x _ ih =>
    intro ls e
    cases ls with
    | nil => cases e
    | cons a ls =>
      rw [List.map_cons] at e
      injection e with e1 e2
      obtain ⟨As, h1, h2⟩ := ih e2
      exact ⟨a :: As, h1.cons a, by rw [List.map_cons, e1, h2]⟩
  | swap x y l =>
    intro ls e
    cases ls with
    | nil => cases e
    | cons a ls =>
      cases ls with
      | nil => cases e
      | cons b ls =>
        rw [List.map_cons, List.map_cons] at e
        injection e with e1 e2
        injection e2 with e2 e3
        exact ⟨b :: a :: ls, List.Perm.swap a b ls, by rw [List.map_cons, List.map_cons, e1, e2, e3]⟩
  | trans _ _ ih1 ih2 =>
    intro ls e
    obtain ⟨As, h1, h2⟩ := ih2 e
    obtain ⟨Bs, h3, h4⟩ := ih1 h2
    exact ⟨Bs, h3.trans h1, h4⟩
/-- tuple(mixed(dice, xs)) -/
theorem ev_mixT {d : Addr} {i j : Nat} {ls : List Arr} (hc : ctx[i]? = some (some (rV (.ref d)))) (he : EvM B L te ctx ms (rLst (ls.map rArr)) ms) (hj : ms[j]? = some (d, .dice)) (hl : ls.length ≤ 12) : EvM B L (tThen (tCallR spMixed E0 (tCons (tVar i) (tCons te tNil))) (kTup K)) ctx ms (rEx (fun As : List Arr => As.Perm ls) fun As => rTup (As.map rArr)) ms := fun σ G H S Q k => by
  refine (ev_callD (res := fun x : Addr × List Rp => rEx (fun ys : List Rp => ys.Perm x.2) rLst) (d, ls.map rArr) j (ea_cons (ev_var hc) (ea_cons he ea_nil)) (by show (ls.map rArr).length ≤ 1000; rw [List.length_map]; omega) rfl rfl hj) σ G H S _ fun v G1 H1 e1 S1 ⟨ys, hp, a, xs, ex, ha, hal⟩ => ?_
  obtain ⟨As, h1, h2⟩ := perm_of_map hp rfl
  subst h2
  refine .inl ⟨a, xs, ex, SqL.of (S1.ex.lst ha), fun p hp => ?_⟩
  obtain ⟨e2, S2⟩ := S1.new (o := .tup xs) hp
  exact k _ _ _ (e1.trans e2) S2 ⟨As, h1, p, xs, rfl, upd_same, hal.mono e2⟩
/-- Inbox.of(rule, arrivals) -/
theorem ev_ofX {P : List Arr → Prop} {ps : List Pt} {se : Bool} {t1 t2 : TE} (h1 : EvM B [] t1 ctx ms (rRule K ps se) ms) (h2 : EvM B [] t2 ctx ms (rEx P fun As => rTup (As.map rArr)) ms) (ho : ∀ As, P As → (⟨ps, se, As⟩ : InX).ok) :
    EvM B [] (ClX.tCMeth (He.ga K "Inbox") (spInbOf K) E0 (tC (.ref (He.ga K "Inbox"))) (tCons t1 (tCons t2 tNil))) ctx ms (rEx P fun As => rInb K (InX.h ⟨ps, se, As⟩) (InX.n ⟨ps, se, As⟩)) ms := fun σ G H S Q k =>
  ⟨rfl, h1 σ G H S _ fun v1 G1 H1 e1 S1 hv1 => h2 σ G1 H1 S1 _ fun v2 G2 H2 e2 S2 ⟨As, pA, hv2⟩ => ⟨⟨ps, se, As⟩, [], ⟨ho As pA, rfl⟩, pr_use0 S2 (.cons rfl (.cons ((rRule K ps se).mono e2 hv1) (.cons hv2 .nil))) fun v G3 H3 e3 S3 hv => k v G3 H3 (e1.trans (e2.trans e3)) S3 ⟨As, pA, hv⟩⟩⟩
theorem ev_ofI {ps : List Pt} {se : Bool} {As : List Arr} {t1 t2 : TE} (h1 : EvM B [] t1 ctx ms (rRule K ps se) ms) (h2 : EvM B [] t2 ctx ms (rTup (As.map rArr)) ms) (ho : (⟨ps, se, As⟩ : InX).ok) :
    EvM B [] (ClX.tCMeth (He.ga K "Inbox") (spInbOf K) E0 (tC (.ref (He.ga K "Inbox"))) (tCons t1 (tCons t2 tNil))) ctx ms (rInb K (InX.h ⟨ps, se, As⟩) (InX.n ⟨ps, se, As⟩)) ms := fun σ G H S Q k =>
  ⟨rfl, h1 σ G H S _ fun v1 G1 H1 e1 S1 hv1 => h2 σ G1 H1 S1 _ fun v2 G2 H2 e2 S2 hv2 => ⟨⟨ps, se, As⟩, [], ⟨ho, rfl⟩, pr_use0 S2 (.cons rfl (.cons ((rRule K ps se).mono e2 hv1) (.cons hv2 .nil))) fun v G3 H3 e3 S3 hv => k v G3 H3 (e1.trans (e2.trans e3)) S3 hv⟩⟩
/-- a and b, a true -/
theorem ev_andT {ta tb : TE} (h1 : EvM B L ta ctx ms (rB true) ms1) (h2 : EvM B L tb ctx ms1 r ms2) : EvM B L (tAndV ta tb) ctx ms r ms2 := fun σ G H S Q k =>
  h1 σ G H S _ fun x G1 H1 e1 S1 q1 => ⟨true, q1, h2 σ G1 H1 S1 Q fun v G2 H2 e2 S2 q2 => k v G2 H2 (e1.trans e2) S2 q2⟩
end
/-! ### the inboxes made beside -/
theorem addAs_new : ∀ {As ls : List Arr}, ((ls ++ As).map (·.m)).Nodup → addAs ls As = ls ++ As
  | [], ls, _ => (List.append_nil _).symm
  | a :: As, ls, h => by
    have n : a.m ∉ ls.map (·.m) := fun hm => by
      rw [List.map_append] at h
      exact (List.nodup_append.mp h).2.2 a.m hm a.m (by simp) rfl
    have e : addA ls a = ls ++ [a] := by unfold addA; rw [if_neg n]
    show addAs (addA ls a) As = _
    rw [e, addAs_new (by rw [List.append_assoc]; exact h), List.append_assoc]
    rfl
theorem inx_lt (z : InX) : z.n < z.h.length := by
  show (if 0 < z.ls.length then 1 else 0) < (if 0 < z.ls.length then [z.e0, ⟨z.ps, z.se, z.ls⟩] else [z.e0]).length
  split <;> simp
theorem inx_at (z : InX) : atE z.h z.n = ⟨z.ps, z.se, z.ls⟩ := by
  show atE (if 0 < z.ls.length then [z.e0, ⟨z.ps, z.se, z.ls⟩] else [z.e0]) (if 0 < z.ls.length then 1 else 0) = _
  by_cases h : 0 < z.ls.length
  · rw [if_pos h, if_pos h]; rfl
  · rw [if_neg h, if_neg h]
    have e : z.ls = [] := List.length_eq_zero_iff.mp (by omega)
    rw [e]; rfl
theorem inx_perm {ps : List Pt} {se : Bool} {As ls : List Arr} (h : okPs ps) (hl : okLs ls) (p : As.Perm ls) : (⟨ps, se, As⟩ : InX).ok ∧ addAs [] As = As := by
  have nd : (As.map (·.m)).Nodup := (p.map (·.m)).nodup_iff.mpr hl.nd
  have e : addAs [] As = As := addAs_new nd
  have ok : ∀ a ∈ As, okArr a := fun a ha => hl.ok a (p.subset ha)
  have len : As.length ≤ 12 := by rw [p.length_eq]; exact hl.len
  refine ⟨⟨h, ok, fun a ha b hb e => ?_, ?_, len⟩, e⟩
  · have z1 := arrOf_mem nd ha
    have z2 := arrOf_mem nd hb
    rw [e, z1] at z2
    exact z2.symm
  · show okLs (addAs [] As)
    rw [e]
    exact ⟨nd, ok, len⟩
theorem sameR_refl (ps : List Pt) (s t : Bool) : sameR ps s ps t = decide (s = t) := by unfold sameR; simp
theorem eqO_other {x : Ib} {ps : List Pt} {se : Bool} {As : List Arr} (hp : x.e.ps = ps) (hs : x.e.se = se) (hl : okLs x.e.ls) (p : As.Perm x.e.ls) : (EqO.inb (InX.h ⟨ps, se, As⟩) (InX.n ⟨ps, se, As⟩)).ok x ∧ (EqO.inb (InX.h ⟨ps, se, As⟩) (InX.n ⟨ps, se, As⟩)).ans x = true := by
  have nd : (As.map (·.m)).Nodup := (p.map (·.m)).nodup_iff.mpr hl.nd
  have e : addAs [] As = As := addAs_new nd
  refine ⟨⟨inx_lt _, fun _ => ?_⟩, ?_⟩
  · rw [inx_at]
    show srt x.e.ls = srt (addAs [] As)
    rw [e]
    exact srt_perm_eq p.symm hl.nd
  · show sameR x.e.ps x.e.se (atE (InX.h ⟨ps, se, As⟩) (InX.n ⟨ps, se, As⟩)).ps (atE (InX.h ⟨ps, se, As⟩) (InX.n ⟨ps, se, As⟩)).se = true
    rw [inx_at]
    show sameR x.e.ps x.e.se ps se = true
    rw [hp, hs, sameR_refl]
    simp
theorem eqO_third {x : Ib} {As : List Arr} : (EqO.inb (InX.h ⟨x.e.ps, !x.e.se, As⟩) (InX.n ⟨x.e.ps, !x.e.se, As⟩)).ok x ∧ (EqO.inb (InX.h ⟨x.e.ps, !x.e.se, As⟩) (InX.n ⟨x.e.ps, !x.e.se, As⟩)).ans x = false := by
  have q : sameR x.e.ps x.e.se (atE (InX.h ⟨x.e.ps, !x.e.se, As⟩) (InX.n ⟨x.e.ps, !x.e.se, As⟩)).ps (atE (InX.h ⟨x.e.ps, !x.e.se, As⟩) (InX.n ⟨x.e.ps, !x.e.se, As⟩)).se = false := by
    rw [inx_at]
    show sameR x.e.ps x.e.se x.e.ps (!x.e.se) = false
    rw [sameR_refl]
    cases x.e.se <;> rfl
  exact ⟨⟨inx_lt _, fun h => by rw [q] at h; cases h⟩, q⟩
end K62
set_option maxHeartbeats 1000000
/-! K62Gi: a whole history. -/
namespace K62
open PySem PySem.Spec PyProof.Rows L2
local macro_rules | `(tactic| walk_at "ev") => `(tactic| repeat' (first
  | ((with_reducible apply ev_var); exact rfl)
  | with_reducible exact ev_c
  | with_reducible exact ea_nil
  | with_reducible exact et_yes
  | with_reducible exact rv_I0
  | with_reducible exact eo_none
  | with_reducible apply eo_some
  | with_reducible apply ea_cons
  | with_reducible apply ev_op
  | (with_reducible apply ev_andV <;> try intro _)
  | (with_reducible apply ev_orV <;> try intro _)
  | with_reducible apply ev_notV
  | with_reducible apply ev_tup
  | with_reducible apply ev_lst
  | with_reducible apply ev_neg
  | with_reducible apply ev_cb
  | with_reducible apply et_B
  | with_reducible apply et_val
  | with_reducible apply et_not
  | (with_reducible apply et_and <;> try intro _)
  | (with_reducible apply et_or <;> try intro _)
  | with_reducible apply ev_call
  | with_reducible apply ev_fld
  | with_reducible exact cls_Cutter (by assumption)
  | with_reducible exact cls_Rule (by assumption)
  | with_reducible exact cls_Page (by assumption)
  | with_reducible exact cls_Inbox (by assumption)
  | with_reducible exact na_parts (by assumption)
  | with_reducible exact na_tables (by assumption)
  | with_reducible exact na_whole (by assumption)
  | with_reducible exact na_cutter (by assumption)
  | with_reducible exact na_sees (by assumption)
  | with_reducible exact na_rule (by assumption)
  | with_reducible exact na_pmarks (by assumption)
  | with_reducible exact na_letters (by assumption)
  | with_reducible exact na_bound (by assumption)
  | with_reducible exact na_shown (by assumption)
  | with_reducible exact na_moves (by assumption)
  | with_reducible exact na_near (by assumption)
  | with_reducible exact na_groups (by assumption)
  | with_reducible exact na_pages (by assumption)
  | with_reducible exact na_version (by assumption)
  | with_reducible exact na_marks (by assumption)
  | with_reducible exact isi_str (by assumption)
  | with_reducible exact isi_int (by assumption)
  | with_reducible exact isi_intbool (by assumption)
  | with_reducible exact isi_bool (by assumption)
  | with_reducible exact isi_tup (by assumption)
  | with_reducible exact isi_Cutter (by assumption)
  | with_reducible exact isi_Rule (by assumption)
  | with_reducible exact isi_Inbox (by assumption)
  | with_reducible exact rc_lenT
  | with_reducible exact rc_lenL
  | with_reducible apply rc_lenS
  | with_reducible exact rc_abs
  | with_reducible exact rc_max
  | with_reducible exact rc_min
  | with_reducible exact rc_int
  | with_reducible exact rc_intB
  | with_reducible exact rv_inSign
  | with_reducible exact rv_inT
  | with_reducible exact rv_inL
  | with_reducible exact rv_ninL
  | with_reducible exact rv_ixT0
  | with_reducible exact rv_ixT1
  | with_reducible exact rv_ixT2
  | with_reducible exact rv_ixT3
  | with_reducible exact rv_ixL0
  | with_reducible exact rv_ixL1
  | with_reducible exact rv_ixL2))
section
variable {P : Program} {w : World} {K : PySem.W.Frag} {mg : Str → Option Value} {base : Heap}
abbrev spRight : Sp := spF (fun (_ : Addr) L => L = []) (fun d => [rV (.ref d)]) (fun d => [(d, .dice)]) (fun d => [(d, .dice)]) (fun _ => rB true)
theorem pool_of {As : List Arr} (h : okPool As) : Pool As := ⟨h.nd, h.ok, h.len⟩
theorem ev_len1 {B : Bs} {L : List Addr} {ctx : Ct} {ms : Ms} {i n : Nat} {h : List Ent} (h1 : ctx[i]? = some (some (rHist h))) (hn : n < h.length) :
    EvM B L (tOp (rI0 fun i j => .int (i - j)) (tCB (fun xs H Q => ∃ x n, xs = [x] ∧ LenV K x H n ∧ Q (.int n) H) (tCons (tVar i) tNil)) (tC (.int 1))) ctx ms (rN_ (h.length - 1)) ms := by
  refine ev_is (ev_op (ev_cb (ea_cons (ev_var h1) ea_nil) rc_lenL) ev_c rv_I0) (congrArg (fun z => rV (.int z)) ?_)
  rw [List.length_map]
  omega
theorem ev_undoAll {B : Bs} {L : List Addr} {ctx : Ct} {ms : Ms} {i j v : Nat} (x : Ib) (hc : ctx[i]? = some (some (rV (.ref x.a)))) (hv : ctx[v]? = some (some (rN_ x.now))) (hj : ms[j]? = some (x.a, cInb K x.dx x.h x.now)) (ho : x.ok) :
    EvM B L (tOp rEq (tMethK (He.ga K "Inbox") "undo" 1 (spUndo K) E0 (tVar i) (tCons (tVar v) tNil)) (tC (.int 0))) ctx ms (rB true) (ms.set j (x.a, cInb K x.dx x.h 0)) := by
  have u := ev_undo (B := B) (L := L) x hc hj (ea_cons (ev_var hv) ea_nil) ho (Nat.le_refl _)
  rw [Nat.sub_self] at u
  exact ev_op u (ev_is (r2 := rN_ 0) ev_c rfl) (rv_eqNat (n := 0))
theorem ev_redoAll {B : Bs} {L : List Addr} {ctx : Ct} {ms : Ms} {i j v n : Nat} (x : Ib) (h0 : x.now = 0) (hc : ctx[i]? = some (some (rV (.ref x.a)))) (hv : ctx[v]? = some (some (rN_ n))) (hj : ms[j]? = some (x.a, cInb K x.dx x.h x.now)) (ho : x.ok) (hn : n < x.h.length) :
    EvM B L (tOp rEq (tMethK (He.ga K "Inbox") "redo" 1 (spRedo K) E0 (tVar i) (tCons (tVar v) tNil)) (tVar v)) ctx ms (rB true) (ms.set j (x.a, cInb K x.dx x.h n)) := by
  have u := ev_redo (B := B) (L := L) x hc hj (ea_cons (ev_var hv) ea_nil) ho (by rw [h0]; omega)
  have e : x.now + n = n := by omega
  rw [e] at u
  exact ev_op u (ev_var hv) (rv_eqNat (n := n))
theorem sc_law_right : FnScope ["_law_dice_here", "_law_parts_here", "_law_sees", "_law_pool", "_law_inbox", "_law_history", "_law_now", "_law_turn", "_law_found", "_law_letters", "_law_other", "_law_mark", "_law_third", "_law_last"] ["_law_dice_here"] (defScope s_law_right) := ⟨rfl, rfl, rfl, by decide +kernel, rfl, by decide +kernel, by decide +kernel⟩
theorem cl_law_right (T : Tx P w K mg base) : ClQ P w K mg base 10 "_law_right" spRight := by
  have c_law_parts := cl_law_parts T
  have c_law_roll := cl_law_roll T
  have c_law_any_arrivals := cl_law_any_arrivals T
  have c_law_rule_of := cl_law_rule_of T
  have c_law_entry := cl_law_entry T
  have c_law_deed := cl_law_deed T
  have c_law_is := cl_law_is T
  have c_law_mixed := cl_law_mixed T
  have k_Inbox := k_Inbox_ T
  have cm_Inbox_of := cm_Inbox_of_ T
  have o_Inbox_eq := ow_Inbox_eq T
  have ne_Inbox := ne_of_ (T.fact fi_ne_Inbox)
  have mro_Inbox := mro_of (T.fact fi_ins_Inbox)
  have mk_Inbox_undo := mk_Inbox_undo_ T
  have mk_Inbox_redo := mk_Inbox_redo_ T
  obtain ⟨fd, F⟩ := T.def_ di_law_right
  refine ⟨_, T.glo fi_glo_law_right, F.kp, fnQ_of F sc_law_right (fun _ => rfl) (fun _ _ _ _ _ _ us hl => match us, hl with | [_], _ => rfl) fun cdv A outer s H0 vs Q E hr hg d L G hp k S => ?_⟩
  have hp : L = [] := hp
  subst hp
  have S : Sx ⟨[d], G, H0⟩ [] [some (rV (.ref d)), none, none, none, none, none, none, none, none, none, none, none, none, none] [(d, .dice)] _ G H0 := S
  have k : ∀ ctx σ G' H', Sx ⟨[d], G, H0⟩ [] ctx [(d, .dice)] σ G' H' → ∀ v, (rB true).ok v G' → Q v H' := k
  refine ⟨_, (pss_cons (ps_par3 (i := 1) (j := 2) (l := 3) rfl sc_law_right.nd rfl rfl rfl (by decide) (by decide) (by decide) rfl rfl rfl (pa_cons (pe_callR c_law_parts hr (by decide) (by rfl) (pa_cons (pv 0) (pa_cons pe_int pa_nil))) (pa_cons (pe_cmpR op_eq (pe_callR c_law_roll hr (by decide) (by rfl) (pa_cons (pv 0) (pa_cons pe_int pa_nil))) pe_int (nomark _)) (pa_cons (pe_callR c_law_any_arrivals hr (by decide) (by rfl) (pa_cons (pv 0) (pa_cons pe_int pa_nil))) pa_nil))) rfl)
    (pss_cons (ps_par3 (i := 4) (j := 5) (l := 6) rfl sc_law_right.nd rfl rfl rfl (by decide) (by decide) (by decide) rfl rfl rfl (pa_cons (pe_mk k_Inbox hr (by decide) (by rfl) (pa_cons (pe_callR c_law_rule_of hr (by decide) (by rfl) (pa_cons (pv 1) (pa_cons (pv 2) pa_nil))) pa_nil)) (pa_cons (pe_lst (pa_cons (pe_callR c_law_entry hr (by decide) (by rfl) (pa_cons (pv 1) (pa_cons (pv 2) (pa_cons pe_dnewK pa_nil)))) pa_nil)) (pa_cons pe_int pa_nil))) rfl)
    (pss_cons (ps_for PassesOwn.never rfl (pi_range1 (by rfl) (T.free fi_free_range) (pa_cons (pe_op op_add pe_int (pe_callR c_law_roll hr (by decide) (by rfl) (pa_cons (pv 0) (pa_cons pe_int pa_nil)))) pa_nil)) (pg_name (i := 7) sc_law_right.nd rfl (Or.inl rfl))
      (pss_cons (ps_set (i := 8) sc_law_right.nd rfl (Or.inl rfl) (pe_callQ c_law_deed hg hr (by decide) (by rfl) (pa_cons (pv 0) (pa_cons (pv 4) (pa_cons (pv 3) (pa_cons (pv 5) (pa_cons (pv 6) pa_nil)))))))
    (pss_cons (ps_if (pt_cmpR op_isN (pv 8) pe_non (nomark _)) (pss_one (ps_ret pe_bl)) pss_nil)
    (pss_cons (ps_asg (pv 8) (pg_tupK (K := K) (n := 2) rfl (pgs_cons (pg_name (i := 5) sc_law_right.nd rfl (Or.inl rfl)) (pgs_cons (pg_name (i := 6) sc_law_right.nd rfl (Or.inl rfl)) pgs_nil))))
    (pss_one (ps_if (pt_not (pt_val (pe_callQ c_law_is hg hr (by decide) (by rfl) (pa_cons (pv 4) (pa_cons (pv 5) (pa_cons (pv 6) pa_nil)))))) (pss_one (ps_ret pe_bl)) pss_nil))))))
    (pss_cons (ps_asg (pe_slice (sl_tupK (K := K)) (pe_ix (ix_listK (K := K)) (pv 5) (pv 6) (fun _ _ => rfl)) po_none (po_some pe_int)) (pg_tupK (K := K) (n := 3) rfl (pgs_cons (pg_name (i := 1) sc_law_right.nd rfl (Or.inl rfl)) (pgs_cons (pg_name (i := 2) sc_law_right.nd rfl (Or.inl rfl)) (pgs_cons (pg_name (i := 9) sc_law_right.nd rfl (Or.inr rfl)) pgs_nil)))))
    (pss_cons (ps_set (i := 10) sc_law_right.nd rfl (Or.inl rfl) (pe_cm cm_Inbox_of hr (by decide) (by rfl) (pa_cons (pe_callR c_law_rule_of hr (by decide) (by rfl) (pa_cons (pv 1) (pa_cons (pv 2) pa_nil))) (pa_cons (pe_tupleK (K := K) (by rfl) (T.free fi_free_tuple) (pe_callR c_law_mixed hr (by decide) (by rfl) (pa_cons (pv 0) (pa_cons (pe_lock (pe_lc (own := [("_law_mark", 11)]) rfl sc_law_right.nd (pi_keys (pv 9)) (blkOk_by (own := [("_law_mark", 11)]) (N := ["_law_dice_here", "_law_parts_here", "_law_sees", "_law_pool", "_law_inbox", "_law_history", "_law_now", "_law_turn", "_law_found", "_law_letters", "_law_other", "_law_mark", "_law_third", "_law_last"]) (sc := defScope s_law_right) (by decide +kernel)) (fun _ _ _ _ _ => (pg_name (i := 11) sc_law_right.nd rfl (Or.inl rfl) (Or.inr rfl))) (fun _ _ _ _ _ => pts_nil) (fun _ _ _ _ _ => (pe_dget (hu_of hr) (pv 9) (pv 11) (fun _ _ => rfl))))) pa_nil)))) pa_nil))))
    (pss_cons (ps_set (i := 12) sc_law_right.nd rfl (Or.inl rfl) (pe_cm cm_Inbox_of hr (by decide) (by rfl) (pa_cons (pe_callR c_law_rule_of hr (by decide) (by rfl) (pa_cons (pv 1) (pa_cons (pe_not (pv 2)) pa_nil))) (pa_cons (pe_tupleK (K := K) (by rfl) (T.free fi_free_tuple) (pe_lock (pe_lc (own := [("_law_mark", 11)]) rfl sc_law_right.nd (pi_keys (pv 9)) (blkOk_by (own := [("_law_mark", 11)]) (N := ["_law_dice_here", "_law_parts_here", "_law_sees", "_law_pool", "_law_inbox", "_law_history", "_law_now", "_law_turn", "_law_found", "_law_letters", "_law_other", "_law_mark", "_law_third", "_law_last"]) (sc := defScope s_law_right) (by decide +kernel)) (fun _ _ _ _ _ => (pg_name (i := 11) sc_law_right.nd rfl (Or.inl rfl) (Or.inr rfl))) (fun _ _ _ _ _ => pts_nil) (fun _ _ _ _ _ => (pe_dget (hu_of hr) (pv 9) (pv 11) (fun _ _ => rfl)))))) pa_nil))))
    (pss_cons (ps_if (PW.pt (pw_or (pt_cmpR (op_neK (K := K) o_Inbox_eq ne_Inbox mro_Inbox hr (by decide)) (pv 4) (pv 10) (nomark _)) (pw_or (pt_cmpR (op_eqK (K := K) o_Inbox_eq hr (by decide)) (pv 4) (pv 12) (nomark _)) (pw_or (pt_not (pt_cmpR (op_neK (K := K) o_Inbox_eq ne_Inbox mro_Inbox hr (by decide)) (pv 4) (pv 12) (nomark _))) (pw_or (pt_cmpR (op_eqK (K := K) o_Inbox_eq hr (by decide)) (pv 4) (pv 9) (nomark _)) (pw_or1 (pt_cmpR (op_eqK (K := K) o_Inbox_eq hr (by decide)) (pv 4) pe_non (nomark _)))))))) (pss_one (ps_ret pe_bl)) pss_nil)
    (pss_cons (ps_set (i := 13) sc_law_right.nd rfl (Or.inl rfl) (pe_op op_sub (pe_callB (id := "len") (call_lenK (K := K)) (by rfl) (T.free fi_free_len) (by decide +kernel) (pa_cons (pv 5) pa_nil)) pe_int))
    (pss_one (ps_ret (pe_and (pe_cmpR op_eq (pe_mtK (T.cls fi_cls_Inbox) mk_Inbox_undo hr (by decide) (pv 4) (pk_cons (pv 6) pk_nil)) pe_int (nomark _)) (pe_and (pe_callQ c_law_is hg hr (by decide) (by rfl) (pa_cons (pv 4) (pa_cons (pv 5) (pa_cons pe_int pa_nil)))) (pe_one (pe_cmpR op_eq (pe_mtK (T.cls fi_cls_Inbox) mk_Inbox_redo hr (by decide) (pv 4) (pk_cons (pv 13) pk_nil)) (pv 13) (nomark _))))))))))))))), ?_⟩
  try dsimp only [L2.cxOf]
  refine st_par3 (r1 := rEx (fun ps : List Pt => (∀ p ∈ ps, p.ok) ∧ ps.length ≤ 2) fun ps => rLst (ps.map rP)) (r2 := rEx (fun _ : Bool => True) rB) (r3 := rEx okPool fun As => rLst (As.map rArr)) (ms1 := [(d, .dice)]) ?_ S fun σ1 G1 H1 e1 S1 => ?_
  · exact ea_cons (ev_parts2 (j := 0) rfl rfl) (ea_cons (ev_flag (j := 0) rfl rfl) (ea_cons (ev_anyA (j := 0) rfl rfl) ea_nil))
  dsimp only
  obtain ⟨ps, hps2, S2⟩ := S1.open_ (i := 1) rfl
  obtain ⟨se, _, S3⟩ := S2.open_ (i := 2) rfl
  obtain ⟨pool, hpool', S4⟩ := S3.open_ (i := 3) rfl
  have hps := parts_okPs hps2
  have hpool := pool_of hpool'
  have S4 : Sx ⟨[d], G, H0⟩ [] [some (rV (.ref d)), some (rLst (ps.map rP)), some (rB se), some (rLst (pool.map rArr)), none, none, none, none, none, none, none, none, none, none] [(d, .dice)] _ _ _ := S4
  have hz : (⟨ps, se, []⟩ : InX).ok := ⟨hps, by simp, by simp, ⟨by simp [addAs], by simp [addAs], by simp [addAs]⟩, by simp⟩
  have he0 : okE ⟨ps, se, []⟩ := okE0 hz
  refine st_par3I (z := ⟨ps, se, []⟩) (r2 := rHist [⟨ps, se, []⟩]) (ms1 := [(d, .dice)]) ?_ hz (fun y dx => ?_) S4 fun y dx σ5 G5 H5 e5 S5 => ?_
  · exact ea_cons (ev_ruleOf rfl rfl hps) ea_nil
  · exact ev_lst (ea_cons (ev_call (res := fun e : Ent => rEnt e) (⟨ps, se, []⟩ : Ent) (ea_cons (ev_var rfl) (ea_cons (ev_var rfl) (ea_cons ev_dnewP ea_nil))) ⟨he0, rfl⟩) ea_nil) (by simp)
  dsimp only
  have pm : [(d, Cell.dice), (y, cInb K dx [(⟨ps, se, []⟩ : Ent)] 0)].Perm [(y, cInb K dx [(⟨ps, se, []⟩ : Ent)] 0), (d, Cell.dice)] := List.Perm.swap _ _ _
  have S5 : Sx ⟨[d], G, H0⟩ [] [some (rV (.ref d)), some (rLst (ps.map rP)), some (rB se), some (rLst (pool.map rArr)), some (rV (.ref y)), some (rHist [⟨ps, se, []⟩]), some (rN_ 0), none, none, none, none, none, none, none] [(y, cInb K dx [(⟨ps, se, []⟩ : Ent)] 0), (d, .dice)] _ _ _ := S5
  have S6 := S5.cells (fun p hp => pm.subset hp) ((pm.map (·.1)).nodup_iff.mpr S5.mem.nd)
  have hi0 : HiO pool [⟨ps, se, []⟩] 0 := ⟨okH0 hz, by simp, fun e he a ha => by rw [List.mem_singleton.mp he] at ha; cases ha⟩
  refine st_forX (γ := Nat) (ι := List Ent × Nat) (P := fun c => c ≤ 14) (rsf := fun n => (List.range n).map fun i => rI (i : Nat)) (ms1 := [(d, .dice), (y, cInb K dx [(⟨ps, se, []⟩ : Ent)] 0)]) ?_ S6 (fun i x => HiO pool x.1 x.2 ∧ x.1.length ≤ i + 1)
    (fun x => [some (rV (.ref d)), some (rLst (ps.map rP)), some (rB se), some (rLst (pool.map rArr)), some (rV (.ref y)), some (rHist x.1), some (rN_ x.2), none, none, none, none, none, none, none]) (fun x => [(d, .dice), (y, cInb K dx x.1 x.2)]) ([⟨ps, se, []⟩], 0) ⟨hi0, by simp⟩ (fun B σ G H S => S) (fun c hc B1 G7 H7 i r x σ8 G8 H8 e7 hr0 hx e8 hl un sm S8 => ?_) (fun c x σ8 G8 H8 hc hx e7 S8 => ?_)
  · exact eix_rng (P := fun c => c ≤ 14) (ea_cons (ev_four (j := 0) rfl rfl) ea_nil) fun c hc => by omega
  · obtain ⟨h, n⟩ := x
    obtain ⟨hx, hlen⟩ := hx
    dsimp only at hx hlen S8
    have hi14 : i < 14 := by
      have := (List.getElem?_eq_some_iff.mp hr0).1
      rw [List.length_map, List.length_range] at this
      omega
    rw [List.getElem?_map] at hr0
    cases hq : (List.range c)[i]? with
    | none => rw [hq] at hr0; cases hr0
    | some i' =>
      rw [hq] at hr0
      cases hr0
      refine ⟨_, [7], gm_name (by simp), fun σ9 G9 H9 e9 S9 => ?_⟩
      dsimp only
      refine st_deed (d := d) (x := ⟨h, n, y, dx⟩) (pool := pool) rfl rfl rfl rfl rfl ⟨⟨hx.ok, hx.lt⟩, hpool, hx, by show h.length < 40; omega⟩ S9 fun h' n' σ10 G10 H10 e10 hx' hlen' S10 => ?_
      dsimp only
      have hlen' : h'.length ≤ h.length + 1 := hlen'
      have S10 : Sx _ [] [some (rV (.ref d)), some (rLst (ps.map rP)), some (rB se), some (rLst (pool.map rArr)), some (rV (.ref y)), some (rHist h), some (rN_ n), some (rI (i' : Nat)), some (rHN h' n'), none, none, none, none, none] [(d, .dice), (y, cInb K dx h' n')] _ _ _ := S10
      refine st_ifFP (et_val (ev_op (ev_var rfl) ev_c rv_isT)) S10 fun G11 H11 e11 S11 => ?_
      dsimp only [tNext]
      refine st_unp (ms1 := [(d, .dice), (y, cInb K dx h' n')]) (ev_var rfl) (gm_tup2 (vs := [5, 6]) (by simp) (by simp)) S11 fun σ12 G12 H12 e12 S12 => ?_
      dsimp only
      refine st_ifFP ?_ S12 fun G13 H13 e13 S13 => ?_
      · exact et_b (et_not (et_B (ev_isQ (⟨h', n', y, dx⟩ : Ib) (l := 1) rfl rfl (ev_var rfl) rfl ⟨hx'.ok, hx'.lt⟩))) rfl
      · exact ⟨(h', n'), G13, ⟨hx', by show h'.length ≤ i + 1 + 1; omega⟩, S13.weak (by repeat' constructor)⟩
  · obtain ⟨h, n⟩ := x
    obtain ⟨hx, hlen⟩ := hx
    dsimp only at hx hlen S8
    obtain ⟨x, rfl, rfl, rfl, rfl⟩ : ∃ x : Ib, x.h = h ∧ x.now = n ∧ x.a = y ∧ x.dx = dx := ⟨⟨h, n, y, dx⟩, rfl, rfl, rfl, rfl⟩
    have ho : x.ok := ⟨hx.ok, hx.lt⟩
    have hv : x.now < x.h.length := hx.lt
    have he := ho.e
    dsimp only
    refine st_unp (ms1 := [(d, .dice), (x.a, cInb K x.dx x.h x.now)]) (ev_headX x (i := 5) (j := 6) rfl rfl hv) (gm_tup3 (vs := [1, 2, 9]) (by simp) (by simp) (by simp)) S8 fun σ9 G9 H9 e9 S9 => ?_
    dsimp only
    have S9 : Sx ⟨[d], G, H0⟩ [] [some (rV (.ref d)), some (rLst (x.e.ps.map rP)), some (rB x.e.se), some (rLst (pool.map rArr)), some (rV (.ref x.a)), some (rHist x.h), some (rN_ x.now), none, none, some (rLet x.e.ls), none, none, none, none] [(d, .dice), (x.a, cInb K x.dx x.h x.now)] _ _ _ := S9
    refine st_setP (i := 10) (rEx (fun As : List Arr => As.Perm x.e.ls) fun As => rInb K (InX.h ⟨x.e.ps, x.e.se, As⟩) (InX.n ⟨x.e.ps, x.e.se, As⟩)) ?_ S9 fun σ10 G10 H10 e10 S10 => ?_
    · exact ev_ofX (ev_ruleOf rfl rfl he.ps) (ev_mixT (j := 0) rfl (ev_items9 rfl (by show 11 < 14; omega) he.ls.nd he.ls.len) rfl he.ls.len) fun As hp => (inx_perm he.ps he.ls hp).1
    dsimp only
    obtain ⟨As, hAs, S11⟩ := S10.open_ (i := 10) rfl
    have S11 : Sx ⟨[d], G, H0⟩ [] [some (rV (.ref d)), some (rLst (x.e.ps.map rP)), some (rB x.e.se), some (rLst (pool.map rArr)), some (rV (.ref x.a)), some (rHist x.h), some (rN_ x.now), none, none, some (rLet x.e.ls), some ((EqO.inb (InX.h ⟨x.e.ps, x.e.se, As⟩) (InX.n ⟨x.e.ps, x.e.se, As⟩)).rp K), none, none, none] [(d, .dice), (x.a, cInb K x.dx x.h x.now)] _ _ _ := S11
    refine st_setP (i := 12) ((EqO.inb (InX.h ⟨x.e.ps, !x.e.se, x.e.ls⟩) (InX.n ⟨x.e.ps, !x.e.se, x.e.ls⟩)).rp K) ?_ S11 fun σ12 G12 H12 e12 S12 => ?_
    · exact ev_ofI (ev_call (res := fun x : List Pt × Bool => rRule K x.1 x.2) (x.e.ps, !x.e.se) (ea_cons (ev_var rfl) (ea_cons (ev_notV (ev_var rfl)) ea_nil)) he.ps) (ev_tupOfL (ev_items9 rfl (by show 11 < 14; omega) he.ls.nd he.ls.len)) (inx_perm he.ps he.ls (.refl _)).1
    dsimp only
    have q1 := eqO_other (x := x) (As := As) rfl rfl he.ls hAs
    have q2 := eqO_third (x := x) (As := x.e.ls)
    refine st_ifFP ?_ S12 fun G13 H13 e13 S13 => ?_
    · refine et_b (b := !(EqO.inb (InX.h ⟨x.e.ps, x.e.se, As⟩) (InX.n ⟨x.e.ps, x.e.se, As⟩)).ans x || ((EqO.inb (InX.h ⟨x.e.ps, !x.e.se, x.e.ls⟩) (InX.n ⟨x.e.ps, !x.e.se, x.e.ls⟩)).ans x || (!(!(EqO.inb (InX.h ⟨x.e.ps, !x.e.se, x.e.ls⟩) (InX.n ⟨x.e.ps, !x.e.se, x.e.ls⟩)).ans x) || ((EqO.dct (ltD x.e.ls)).ans x || EqO.non.ans x)))) (et_or (et_val (ev_op (ev_var rfl) (ev_var rfl) (rv_neI T x _ 1 rfl ho q1.1))) fun _ => et_or (et_val (ev_op (ev_var rfl) (ev_var rfl) (rv_eqI T x _ 1 rfl ho q2.1))) fun _ => et_or (et_not (et_val (ev_op (ev_var rfl) (ev_var rfl) (rv_neI T x _ 1 rfl ho q2.1)))) fun _ => et_or (et_val (ev_op (ev_var rfl) (ev_var rfl) (rv_eqI T x (.dct (ltD x.e.ls)) 1 rfl ho trivial))) fun _ => et_val (ev_op (ev_var rfl) ev_c (rv_eqI T x .non 1 rfl ho trivial))) ?_
      rw [q1.2, q2.2]
      rfl
    dsimp only [tNext]
    refine st_setP (i := 13) (rN_ (x.h.length - 1)) ?_ S13 fun σ14 G14 H14 e14 S14 => ?_
    · exact ev_len1 (h := x.h) rfl hv
    dsimp only
    refine st_ret (r := rB true) (ms1 := [(d, .dice), (x.a, cInb K x.dx x.h (x.h.length - 1))]) ?_ S14 fun v G' H' e S' hv => k _ _ G' H' (S'.cells (fun p hp => by rw [List.mem_singleton.mp hp]; exact List.mem_cons_self) (by simp)) v hv
    refine ev_andT (ms1 := [(d, .dice), (x.a, cInb K x.dx x.h 0)]) ?_ (ev_andT (ms1 := [(d, .dice), (x.a, cInb K x.dx x.h 0)]) ?_ ?_)
    · exact ev_undoAll x (j := 1) rfl rfl rfl ho
    · exact ev_isQ (⟨x.h, 0, x.a, x.dx⟩ : Ib) (l := 1) rfl rfl (ev_is (r2 := rN_ 0) ev_c rfl) rfl ⟨ho.1, Nat.lt_of_le_of_lt (Nat.zero_le _) hv⟩
    · exact ev_redoAll (⟨x.h, 0, x.a, x.dx⟩ : Ib) (j := 1) rfl rfl rfl rfl ⟨ho.1, Nat.lt_of_le_of_lt (Nat.zero_le _) hv⟩ (by show x.h.length - 1 < x.h.length; omega)
end
end K62
set_option maxHeartbeats 4000000
/-! K62Gj: the script and its dice. -/
namespace K62
open PySem PySem.Spec PyProof.Rows L2
local macro_rules | `(tactic| walk_at "ev") => `(tactic| repeat' (first
  | ((with_reducible apply ev_var); exact rfl)
  | with_reducible exact ev_c
  | with_reducible exact ea_nil
  | with_reducible exact et_yes
  | with_reducible exact rv_I0
  | with_reducible exact eo_none
  | with_reducible apply eo_some
  | with_reducible apply ea_cons
  | with_reducible apply ev_op
  | (with_reducible apply ev_andV <;> try intro _)
  | (with_reducible apply ev_orV <;> try intro _)
  | with_reducible apply ev_notV
  | with_reducible apply ev_tup
  | with_reducible apply ev_lst
  | with_reducible apply ev_neg
  | with_reducible apply ev_cb
  | with_reducible apply et_B
  | with_reducible apply et_val
  | with_reducible apply et_not
  | (with_reducible apply et_and <;> try intro _)
  | (with_reducible apply et_or <;> try intro _)
  | with_reducible apply ev_call
  | with_reducible apply ev_fld
  | with_reducible exact cls_Cutter (by assumption)
  | with_reducible exact cls_Rule (by assumption)
  | with_reducible exact cls_Page (by assumption)
  | with_reducible exact cls_Inbox (by assumption)
  | with_reducible exact na_parts (by assumption)
  | with_reducible exact na_tables (by assumption)
  | with_reducible exact na_whole (by assumption)
  | with_reducible exact na_cutter (by assumption)
  | with_reducible exact na_sees (by assumption)
  | with_reducible exact na_rule (by assumption)
  | with_reducible exact na_pmarks (by assumption)
  | with_reducible exact na_letters (by assumption)
  | with_reducible exact na_bound (by assumption)
  | with_reducible exact na_shown (by assumption)
  | with_reducible exact na_moves (by assumption)
  | with_reducible exact na_near (by assumption)
  | with_reducible exact na_groups (by assumption)
  | with_reducible exact na_pages (by assumption)
  | with_reducible exact na_version (by assumption)
  | with_reducible exact na_marks (by assumption)
  | with_reducible exact isi_str (by assumption)
  | with_reducible exact isi_int (by assumption)
  | with_reducible exact isi_intbool (by assumption)
  | with_reducible exact isi_bool (by assumption)
  | with_reducible exact isi_tup (by assumption)
  | with_reducible exact isi_Cutter (by assumption)
  | with_reducible exact isi_Rule (by assumption)
  | with_reducible exact isi_Inbox (by assumption)
  | with_reducible exact rc_lenT
  | with_reducible exact rc_lenL
  | with_reducible apply rc_lenS
  | with_reducible exact rc_abs
  | with_reducible exact rc_max
  | with_reducible exact rc_min
  | with_reducible exact rc_int
  | with_reducible exact rc_intB
  | with_reducible exact rv_inSign
  | with_reducible exact rv_inT
  | with_reducible exact rv_inL
  | with_reducible exact rv_ninL
  | with_reducible exact rv_ixT0
  | with_reducible exact rv_ixT1
  | with_reducible exact rv_ixT2
  | with_reducible exact rv_ixT3
  | with_reducible exact rv_ixL0
  | with_reducible exact rv_ixL1
  | with_reducible exact rv_ixL2))
/-- the script: frozen, or one of the text's own objects -/
def rScr (K : Fr) (ns : List Int) : Rp := ⟨fun v G => ∃ a, v = .ref a ∧ ((∃ ob, G a = some (.frz ob (.lst (ns.map V.int)))) ∨ ∀ H : Hp, SqL K H a (ns.map V.int)), fun e ⟨a, h1, h2⟩ => ⟨a, h1, h2.elim (fun ⟨ob, h⟩ => .inl ⟨ob, e _ _ h⟩) .inr⟩⟩
section
variable {B : Bs} {L : List Addr} {ctx : Ct} {ms : Ms} {K : PySem.W.Frag}
theorem scr_at {ns : List Int} {v : V} {G H : Hp} (x : ExL L G H) (h : (rScr K ns).ok v G) : ∃ a, v = .ref a ∧ SqL K H a (ns.map V.int) := by
  obtain ⟨a, h1, h2⟩ := h
  refine ⟨a, h1, ?_⟩
  rcases h2 with ⟨ob, h⟩ | h
  · rcases x.at_ a _ h with ⟨_, e⟩ | ⟨_, ⟨_, z⟩, _⟩
    · exact .inl (.inr ⟨ob, e⟩)
    · cases z
  · exact h H
theorem rc_lenScr {ns : List Int} : RcM B L (fun xs H Q => ∃ x n, xs = [x] ∧ LenV K x H n ∧ Q (.int n) H) [rScr K ns] ctx ms (rI ns.length) ms := fun σ G H xs S hal Q k => by
  obtain ⟨v, rfl, hv⟩ := al1 hal
  obtain ⟨a, ev, hs⟩ := scr_at S.ex hv
  exact ⟨v, (ns.map V.int).length, rfl, by subst ev; exact .inl ⟨_, hs, rfl⟩, k _ G H (Same.refl G) S (by show V.int _ = V.int _; rw [List.length_map])⟩
theorem rv_ixScr {ns : List Int} {k : Nat} {i : Int} (h : ns[k]? = some i) : RvM B L (rIxL K) (rScr K ns) (rI (k : Int)) ctx ms (rI i) ms := fun σ G H x y S hx hy Q q => by
  obtain ⟨a, ev, hs⟩ := scr_at S.ex hx
  have hy : y = .int (k : Int) := hy
  subst ev hy
  exact ⟨a, _, k, .int i, rfl, rfl, hs, atI_nat (by rw [List.getElem?_map, h]; rfl), q _ G H (Same.refl G) S rfl⟩
end
section
variable {P : Program} {w : World} {K : PySem.W.Frag} {mg : Str → Option Value} {base : Heap}
abbrev spDiceS (K : Fr) : Sp := spE (β := Addr) (fun (x : List Int × Nat) _ => x.2 ≤ 1000) (fun x => [rScr K x.1, rN_ x.2]) (fun _ => []) (fun _ d => [(d, .dice)]) (fun _ d => rV (.ref d))
def bigS : Int := (10 ^ (60 : Int).toNat) ^ (10 : Int).toNat
theorem bigS_pos : 0 < bigS := by decide +kernel
theorem cl_law_diceS (T : Tx P w K mg base) : Cl P w K mg base 1 "_law_dice" (spDiceS K) := by
  obtain ⟨fd, F⟩ := T.def_ di_law_dice
  refine ⟨_, T.glo fi_glo_law_dice, F.kp, fnE_of F sc_law_dice (fun _ => rfl) (fun _ _ _ _ _ _ us hl => match us, hl with | [_, _], _ => rfl) fun cdv A outer s H0 vs Q E hr z L G hp k S => ?_⟩
  obtain ⟨ns, n⟩ := z
  have h1 : n ≤ 1000 := hp
  refine ⟨_, (pss_cons (ps_set (i := 2) sc_law_dice.nd rfl (Or.inl rfl) (pe_ifExp (pt_cmpR op_lt (pv 1) (pe_callB (id := "len") (call_lenK (K := K)) (by rfl) (T.free fi_free_len) (by decide +kernel) (pa_cons (pv 0) pa_nil)) (nomark _)) (pe_ix (ix_listK (K := K)) (pv 0) (pv 1) (fun _ _ => rfl)) (pe_op op_add (pe_op op_mul pe_int (pv 1)) pe_int)))
    (pss_cons (ps_set (i := 3) sc_law_dice.nd rfl (Or.inl rfl) (pe_op op_mod (pe_callTy (T := "int") call_int1 (by rfl) (T.free fi_free_int) (by decide +kernel) (pa_cons (pe_callB (id := "abs") call_abs (by rfl) (T.free fi_free_abs) (by decide +kernel) (pa_cons (pv 2) pa_nil)) pa_nil)) (pe_op op_powB (pe_op op_powB pe_int pe_int) pe_int)))
    (pss_cons (ps_set (i := 4) sc_law_dice.nd rfl (Or.inl rfl) (pe_op op_add (pe_op op_add (pe_op op_add (pe_op op_mul (pe_op op_mod (pe_callTy (T := "int") call_int1 (by rfl) (T.free fi_free_int) (by decide +kernel) (pa_cons (pv 3) pa_nil)) pe_int) pe_int) (pe_op op_mul pe_int (pv 1))) (pe_op op_mul pe_int (pe_callTy (T := "int") call_int1 (by rfl) (T.free fi_free_int) (by decide +kernel) (pa_cons (pe_cmpR op_lt (pv 2) pe_int (nomark _)) pa_nil)))) pe_int))
    (pss_one (ps_ret (pe_lst (pa_cons (pe_callB (id := "max") (call_max2 rfl) (by rfl) (T.free fi_free_max) (by decide +kernel) (pa_cons pe_int (pa_cons (pe_op op_sub (pv 3) (pe_op op_powB pe_int pe_int)) pa_nil))) (pa_cons (pe_op op_mod (pe_callTy (T := "int") call_int1 (by rfl) (T.free fi_free_int) (by decide +kernel) (pa_cons (pv 4) pa_nil)) pe_int) (pa_cons pe_int pa_nil))))))))), ?_⟩
  try dsimp only [L2.cxOf]
  obtain ⟨c, hc⟩ : ∃ c : Int, c = if n < ns.length then ns.getD n 0 else 41 * (n : Int) + 7 := ⟨_, rfl⟩
  refine st_setP (i := 2) (rI c) ?_ S fun σ1 G1 H1 e1 S1 => ?_
  · refine ev_if (b := decide ((n : Int) < ns.length)) (et_val (ev_op (ev_var rfl) (ev_cb (ea_cons (ev_var rfl) ea_nil) rc_lenScr) rv_I0)) (fun hb => ?_) (fun hb => ?_)
    · have hn : n < ns.length := by have := of_decide_eq_true hb; omega
      rw [if_pos hn] at hc
      refine ev_op (ev_var rfl) (ev_var rfl) (rv_ixScr (k := n) ?_)
      rw [List.getElem?_eq_getElem hn, hc]
      simp [List.getD, List.getElem?_eq_getElem hn]
    · have hn : ¬ n < ns.length := by have := of_decide_eq_false hb; omega
      rw [if_neg hn] at hc
      rw [hc]
      exact ev_op (ev_op ev_c (ev_var rfl) (rv_Ic (.inl ⟨by decide, by decide⟩))) ev_c rv_I0
  dsimp only
  clear hc
  have pw1 : CPowB 10 60 := .inl ⟨by decide, by decide, by decide⟩
  have pw2 : CPowB (10 ^ (60 : Int).toNat) 10 := .inr ⟨by decide +kernel, rfl⟩
  have pw3 : CPowB 10 18 := .inl ⟨by decide, by decide, by decide⟩
  obtain ⟨g, hg⟩ : ∃ g : Int, g = (if c < 0 then -c else c) % bigS := ⟨_, rfl⟩
  have g0 : 0 ≤ g := by rw [hg]; exact Int.emod_nonneg _ (by have := bigS_pos; omega)
  refine st_setP (i := 3) (rI g) ?_ S1 fun σ2 G2 H2 e2 S2 => ?_
  · rw [hg]
    exact ev_op (ev_cb (ea_cons (ev_cb (ea_cons (ev_var rfl) ea_nil) rc_abs) ea_nil) rc_int) (ev_op (ev_op ev_c ev_c (rv_Ic pw1)) ev_c (rv_Ic pw2)) (rv_Ic bigS_pos)
  clear hg
  dsimp only
  have a1 : 0 ≤ g % 2147483399 := Int.emod_nonneg _ (by omega)
  have a2 : g % 2147483399 < 2147483399 := Int.emod_lt_of_pos _ (by omega)
  obtain ⟨m, hm⟩ : ∃ m : Int, m = g % 2147483399 * 60013 + 4001 * (n : Int) + 29 * (if decide (c < 0) then 1 else 0) + 61 := ⟨_, rfl⟩
  refine st_setP (i := 4) (rI m) ?_ S2 fun σ3 G3 H3 e3 S3 => ?_
  · rw [hm]
    exact ev_op (ev_op (ev_op (ev_op (ev_op (ev_cb (ea_cons (ev_var rfl) ea_nil) rc_int) ev_c (rv_Ic (by decide))) ev_c (rv_Ic (.inl ⟨by omega, by omega⟩))) (ev_op ev_c (ev_var rfl) (rv_Ic (.inl ⟨by decide, by decide⟩))) rv_I0) (ev_op ev_c (ev_cb (ea_cons (ev_op (ev_var rfl) ev_c rv_I0) ea_nil) rc_intB) (rv_Ic (.inl ⟨by decide, by decide⟩))) rv_I0) ev_c rv_I0
  dsimp only
  refine st_retM (rs := [rI (if g - 10 ^ (18 : Int).toNat > 0 then g - 10 ^ (18 : Int).toNat else 0), rI (m % 2147483423), rI 0]) ?_ (by simp) S3 fun d G4 H4 e4 S4 => ?_
  · refine ea_cons (ev_cb (ea_cons ev_c (ea_cons (ev_op (ev_var rfl) (ev_op ev_c ev_c (rv_Ic pw3)) rv_I0) ea_nil)) rc_max) (ea_cons (ev_op (ev_cb (ea_cons (ev_var rfl) ea_nil) rc_int) ev_c (rv_Ic (by decide))) (ea_cons ev_c ea_nil))
  · have S5 := S4.dice_close (j := 0) rfl (by split <;> omega) (Int.emod_nonneg _ (by omega)) (by omega)
    exact k d _ _ G4 H4 S5 (.ref d) rfl
/-- right(dice(script, at)) -/
theorem ev_rightDice {B : Bs} {ctx : Ct} {ms : Ms} {i j n : Nat} {ns : List Int} (h0 : ctx[i]? = some (some (rScr K ns))) (h1 : ctx[j]? = some (some (rN_ n))) (hn : n ≤ 1000) : EvM B [] (tCallR spRight E0 (tCons (tCallR (spDiceS K) E0 (tCons (tVar i) (tCons (tVar j) tNil))) tNil)) ctx ms (rB true) ms := fun σ G H S Q k => by
  show tCons (tVar i) (tCons (tVar j) tNil) σ H fun vs H1 => spDiceS K vs H1 (fun x H2 => spRight [x] H2 Q E0) E0
  refine (ea_cons (ev_var h0) (ea_cons (ev_var h1) ea_nil)) σ G H S _ fun vs G1 H1 e1 S1 hal => ⟨(ns, n), [], hn, ?_⟩
  refine pr_useE (mi := []) (ms := ms) S1 hal fun d v G2 H2 e2 S2 hv => ?_
  have S2 : Sx B [] ctx ([(d, .dice)] ++ ms) σ G2 H2 := S2
  refine ⟨d, [], rfl, pr_useN S2 (.cons hv .nil) (fun p hp => by rw [List.mem_singleton.mp hp]; simp) fun v3 G3 H3 e3 S3 h3 => ?_⟩
  exact k v3 G3 H3 (e1.trans (e2.trans e3)) (Sx.forget (p := (d, .dice)) S3) h3
end
end K62
set_option maxHeartbeats 4000000
/-! K62Gk: the written example. -/
namespace K62
open PySem PySem.Spec PyProof.Rows L2
def qP1 : List Pt := [.pat [] [true, true]]
def qP2 : List Pt := [.pat [true] []]
def qP3 : List Pt := [.all, .pat [] [false, true, true]]
def qP5 : List Pt := [.pat [] [true, true], .all]
def qA3 : Arr := ⟨3, "bob", [1, 2]⟩
def qA1 : Arr := ⟨1, "bob", []⟩
def qA2 : Arr := ⟨2, "eve", [0, 1]⟩
def qE0 : Ent := ⟨qP1, false, []⟩
def qE1 : Ent := ⟨qP1, false, [qA3]⟩
def qE2 : Ent := ⟨qP1, false, [qA3, qA1]⟩
def qE3 : Ent := ⟨qP1, false, [qA3, qA1, qA2]⟩
def qE4 : Ent := ⟨qP2, false, [qA3, qA1, qA2]⟩
def qH1 : List Ent := [qE0, qE1]
def qH2 : List Ent := [qE0, qE1, qE2]
def qH3 : List Ent := [qE0, qE1, qE2, qE3]
def qH4 : List Ent := [qE0, qE1, qE2, qE3, qE4]
theorem okPs_all {ps : List Pt} (h : (ps.all fun p => match p with | .all => true | .pat f b => decide (f.length ≤ 2) && decide (b.length ≤ 3)) = true) (hl : ps.length ≤ 4) : okPs ps := ⟨fun p hp => by
  have z := List.all_eq_true.mp h p hp
  cases p with
  | all => trivial
  | pat f b =>
    have z : (decide (f.length ≤ 2) && decide (b.length ≤ 3)) = true := z
    rw [Bool.and_eq_true] at z
    exact ⟨of_decide_eq_true z.1, of_decide_eq_true z.2⟩, hl⟩
theorem ok_P1 : okPs qP1 := okPs_all (by decide +kernel) (by decide)
theorem ok_P2 : okPs qP2 := okPs_all (by decide +kernel) (by decide)
theorem ok_P3 : okPs qP3 := okPs_all (by decide +kernel) (by decide)
theorem ok_P5 : okPs qP5 := okPs_all (by decide +kernel) (by decide)
theorem ok_A3 : okArr qA3 := ⟨by decide, by decide, by decide +kernel, by decide +kernel, by decide +kernel, by decide⟩
theorem ok_A1 : okArr qA1 := ⟨by decide, by decide, by decide +kernel, by decide +kernel, by decide +kernel, by decide⟩
theorem ok_A2 : okArr qA2 := ⟨by decide, by decide, by decide +kernel, by decide +kernel, by decide +kernel, by decide⟩
theorem ok_l0 : okLs [] := ⟨by simp, by simp, by simp⟩
theorem ok_l1 : okLs [qA3] := ⟨by decide +kernel, fun a h => by rw [List.mem_singleton.mp h]; exact ok_A3, by decide⟩
theorem ok_l2 : okLs [qA3, qA1] := ⟨by decide +kernel, fun a h => by
  simp only [List.mem_cons, List.not_mem_nil, or_false] at h
  rcases h with rfl | rfl
  · exact ok_A3
  · exact ok_A1, by decide⟩
theorem ok_l3 : okLs [qA3, qA1, qA2] := ⟨by decide +kernel, fun a h => by
  simp only [List.mem_cons, List.not_mem_nil, or_false] at h
  rcases h with rfl | rfl | rfl
  · exact ok_A3
  · exact ok_A1
  · exact ok_A2, by decide⟩
theorem gr_H4 : Grow qH4 := by unfold Grow; decide +kernel
theorem ok_H4 : okH qH4 := ⟨by simp [qH4], fun e h => by
  unfold qH4 at h
  simp only [List.mem_cons, List.not_mem_nil, or_false] at h
  rcases h with rfl | rfl | rfl | rfl | rfl
  · exact ⟨ok_P1, ok_l0⟩
  · exact ⟨ok_P1, ok_l1⟩
  · exact ⟨ok_P1, ok_l2⟩
  · exact ⟨ok_P1, ok_l3⟩
  · exact ⟨ok_P2, ok_l3⟩, gr_H4, by decide⟩
theorem ok_H3 : okH qH3 := ok_H4.take (n := 3) (by decide)
theorem ok_H2 : okH qH2 := ok_H4.take (n := 2) (by decide)
theorem ok_H1 : okH qH1 := ok_H4.take (n := 1) (by decide)
theorem q_h1 : InX.h ⟨qP1, false, [qA3]⟩ = qH1 := rfl
theorem q_n1 : InX.n ⟨qP1, false, [qA3]⟩ = 1 := rfl
theorem ok_z1 : (⟨qP1, false, [qA3]⟩ : InX).ok := (inx_perm (se := false) ok_P1 ok_l1 (.refl _)).1
theorem q_s1 : plc qE1 3 = none := by decide +kernel
theorem q_s2 : plc qE2 3 = some 1 := by decide +kernel
theorem q_s3 : plc qE3 3 = some 2 := by decide +kernel
theorem q_s4 : plc qE4 3 = some 1 := by decide +kernel
theorem q_m3 : mvs (qH3.take 4) 3 = 2 := by decide +kernel
theorem q_m4 : mvs (qH4.take 5) 3 = 3 := by decide +kernel
theorem q_m42 : mvs (qH4.take 3) 3 = 1 := by decide +kernel
theorem q_m43 : mvs (qH4.take 4) 3 = 2 := by decide +kernel
theorem q_b3 : belowL qE3 1 = [2] := by decide +kernel
theorem q_i1 : (3 : Int) ∈ marks qE1.ls := by decide +kernel
theorem q_i2 : (3 : Int) ∈ marks qE2.ls := by decide +kernel
theorem q_i3 : (3 : Int) ∈ marks qE3.ls := by decide +kernel
theorem q_i4 : (3 : Int) ∈ marks qE4.ls := by decide +kernel
theorem q_i31 : (1 : Int) ∈ marks qE3.ls := by decide +kernel
theorem q_mk2 : marks qE2.ls = [1, 3] := by decide +kernel
theorem q_ad : adj qE2.se (bd qE2) 1 3 = true := by decide +kernel
theorem q_gr : groups qE2 = [[1, 3]] := by
  have hc : comp [1, 3] (adj qE2.se (bd qE2)) 1 = [1, 3] := by
    refine (comp_uniq (F := [1, 3]) (by decide) (by decide) (by decide) (by decide) (fun x hx => ?_) (fun x hx y hy _ => hy) (.refl _) (by decide)).symm
    simp only [List.mem_cons, List.not_mem_nil, or_false] at hx
    rcases hx with rfl | rfl
    · exact .refl
    · exact .step .refl (by decide) q_ad
  unfold groups
  rw [q_mk2]
  show grp [1, 3] _ [1, 3] [] = _
  rw [grp_step, if_neg (by decide), hc, grp_step, if_pos (by decide)]
  rfl
theorem q_u2 : sameR qP2 false qP1 false = false := by decide +kernel
theorem q_u3 : sameR qP3 false qP1 false = true := by decide +kernel
theorem q_u5 : sameR qP1 false qP5 false = true := by decide +kernel
section
variable {B : Bs} {L : List Addr} {ctx : Ct} {ms ms1 : Ms} {tl : TA} {K : PySem.W.Frag} {a dx : Addr} {i j : Nat} {D : Ends} {σ : L2.St} {G H : Hp} {E : XK}
theorem ev_a3 : EvM B L (tTup (tCons (tC (.int 3)) (tCons (tC (.str "bob")) (tCons (tTup (tCons (tC (.int 1)) (tCons (tC (.int 2)) tNil))) tNil)))) ctx ms (rArr qA3) ms := ev_is (ev_tup (ea_cons ev_c (ea_cons ev_c (ea_cons (ev_tup (ea_cons ev_c (ea_cons ev_c ea_nil)) (by simp)) ea_nil))) (by simp)) rfl
theorem ev_a1 : EvM B L (tTup (tCons (tC (.int 1)) (tCons (tC (.str "bob")) (tCons (tTup tNil) tNil)))) ctx ms (rArr qA1) ms := ev_is (ev_tup (ea_cons ev_c (ea_cons ev_c (ea_cons (ev_tup ea_nil (by simp)) ea_nil))) (by simp)) rfl
theorem ev_a2 : EvM B L (tTup (tCons (tC (.int 2)) (tCons (tC (.str "eve")) (tCons (tTup (tCons (tC (.int 0)) (tCons (tC (.int 1)) tNil))) tNil)))) ctx ms (rArr qA2) ms := ev_is (ev_tup (ea_cons ev_c (ea_cons ev_c (ea_cons (ev_tup (ea_cons ev_c (ea_cons ev_c ea_nil)) (by simp)) ea_nil))) (by simp)) rfl
theorem str_pt {z : Str} {p : Pt} (h : z = p.str) : rV (V.str z) = rP p := by subst h; rfl
/-- Rule(Cutter(..)) -/
theorem ev_ruleC {ps : List Pt} {E1 E2 : XK} (h : EvA B L tl ctx ms (ps.map rP) ms) (hp : okPs ps) : EvM B L (StX.tMakeR (He.ga K "Rule") (spRule1 K) E1 (tCons (StX.tMakeR (He.ga K "Cutter") (spCutI K) E2 tl) tNil)) ctx ms (rRule K ps false) ms :=
  ev_mk (x := ps) (fo := fun x => ruleF K (x, false)) (ea_cons (ev_mk (x := ps) (fo := cutF K) h hp) ea_nil) trivial
theorem ev_rule1 {E1 E2 : XK} : EvM B L (StX.tMakeR (He.ga K "Rule") (spRule1 K) E1 (tCons (StX.tMakeR (He.ga K "Cutter") (spCutI K) E2 (tCons (tC (.str "..++")) tNil)) tNil)) ctx ms (rRule K qP1 false) ms := ev_ruleC (ea_cons (ev_is ev_c (str_pt (by decide +kernel))) ea_nil) ok_P1
theorem ev_rule2 {E1 E2 : XK} : EvM B L (StX.tMakeR (He.ga K "Rule") (spRule1 K) E1 (tCons (StX.tMakeR (He.ga K "Cutter") (spCutI K) E2 (tCons (tC (.str "+..")) tNil)) tNil)) ctx ms (rRule K qP2 false) ms := ev_ruleC (ea_cons (ev_is ev_c (str_pt (by decide +kernel))) ea_nil) ok_P2
theorem ev_rule3 {E1 E2 : XK} : EvM B L (StX.tMakeR (He.ga K "Rule") (spRule1 K) E1 (tCons (StX.tMakeR (He.ga K "Cutter") (spCutI K) E2 (tCons (tC (.str "all")) (tCons (tC (.str "..-++")) tNil))) tNil)) ctx ms (rRule K qP3 false) ms := ev_ruleC (ea_cons (ev_is ev_c (str_pt (by decide +kernel))) (ea_cons (ev_is ev_c (str_pt (by decide +kernel))) ea_nil)) ok_P3
theorem ev_rule5 {E1 E2 : XK} : EvM B L (StX.tMakeR (He.ga K "Rule") (spRule1 K) E1 (tCons (StX.tMakeR (He.ga K "Cutter") (spCutI K) E2 (tCons (tC (.str "..++")) (tCons (tC (.str "all")) tNil))) tNil)) ctx ms (rRule K qP5 false) ms := ev_ruleC (ea_cons (ev_is ev_c (str_pt (by decide +kernel))) (ea_cons (ev_is ev_c (str_pt (by decide +kernel))) ea_nil)) ok_P5
/-- x = Inbox(..), a cell; x = [..], a cell -/
theorem st_mkInb {z : InX} (h : EvA B [] tl ctx ms (rRule K z.ps z.se :: z.As.map rArr) ms1) (ho : z.ok) (S : Sx B [] ctx ms σ G H) (k : ∀ y dx σ' G' H', Same G G' → Sx B [] (ctx.set i (some (rV (.ref y)))) ((y, cInb K dx z.h z.n) :: ms1) σ' G' H' → D.nx σ' H') :
    tAsg (StX.tMakeR (He.ga K "Inbox") (spInbI K) E tl) (gName i) D σ H := ev_mkInbM h ho S fun y dx G' H' e' S' => k y dx _ G' H' e' (S'.set rfl)
theorem st_lstM {rs : List Rp} (h : EvA B L tl ctx ms rs ms1) (hl : rs.length ≤ 100000) (S : Sx B L ctx ms σ G H) (k : ∀ d σ' G' H', Same G G' → Sx B L (ctx.set i (some (rV (.ref d)))) ((d, .lst rs) :: ms1) σ' G' H' → D.nx σ' H') : tAsg (tLst tl) (gName i) D σ H := ev_lstM h hl S fun d G' H' e' S' => k d _ G' H' e' (S'.set rfl)
theorem rec_ok {h : List Ent} {n : Nat} {A : Arr} (ho : (⟨h, n, a, dx⟩ : Ib).ok) (hA : okArr A) (hn : A.m ∉ (atE h n).ls.map (·.m)) (hl : okLs (addAs (atE h n).ls [A])) : (⟨⟨h, n, a, dx⟩, [A]⟩ : RecX).ok :=
  ⟨ho, fun a ha => by rw [List.mem_singleton.mp ha]; exact hA, fun a' ha b hb e => by
    have ha := List.mem_singleton.mp ha
    subst ha
    rcases hb with q | q
    · exact absurd (List.mem_map.mpr ⟨b, q, e⟩) hn
    · exact List.mem_singleton.mp q, hl, by simp⟩
theorem ev_rcA1 (hc : ctx[i]? = some (some (rV (.ref a)))) (hj : ms[j]? = some (a, cInb K dx qH1 1)) : EvM B [] (tMethR (He.ga K "Inbox") "receive" (spReceive K) E0 (tVar i) (tCons (tTup (tCons (tC (.int 1)) (tCons (tC (.str "bob")) (tCons (tTup tNil) tNil)))) tNil)) ctx ms (rI 1) (ms.set j (a, cInb K dx qH2 2)) := by
  have z := ev_receive (B := B) (⟨⟨qH1, 1, a, dx⟩, [qA1]⟩ : RecX) hc hj (ea_cons ev_a1 ea_nil) (rec_ok ⟨ok_H1, by show 1 < 2; omega⟩ ok_A1 (by decide +kernel) ok_l2)
  have hm : (⟨⟨qH1, 1, a, dx⟩, [qA1]⟩ : RecX).many = 1 := rfl
  have hh : (⟨⟨qH1, 1, a, dx⟩, [qA1]⟩ : RecX).h' = qH2 := rfl
  have hn : (⟨⟨qH1, 1, a, dx⟩, [qA1]⟩ : RecX).n' = 2 := rfl
  rw [hm, hh, hn] at z
  exact z
theorem ev_rcA2 (hc : ctx[i]? = some (some (rV (.ref a)))) (hj : ms[j]? = some (a, cInb K dx qH2 2)) : EvM B [] (tMethR (He.ga K "Inbox") "receive" (spReceive K) E0 (tVar i) (tCons (tTup (tCons (tC (.int 2)) (tCons (tC (.str "eve")) (tCons (tTup (tCons (tC (.int 0)) (tCons (tC (.int 1)) tNil))) tNil)))) tNil)) ctx ms (rI 1) (ms.set j (a, cInb K dx qH3 3)) := by
  have z := ev_receive (B := B) (⟨⟨qH2, 2, a, dx⟩, [qA2]⟩ : RecX) hc hj (ea_cons ev_a2 ea_nil) (rec_ok ⟨ok_H2, by show 2 < 3; omega⟩ ok_A2 (by decide +kernel) ok_l3)
  have hm : (⟨⟨qH2, 2, a, dx⟩, [qA2]⟩ : RecX).many = 1 := rfl
  have hh : (⟨⟨qH2, 2, a, dx⟩, [qA2]⟩ : RecX).h' = qH3 := rfl
  have hn : (⟨⟨qH2, 2, a, dx⟩, [qA2]⟩ : RecX).n' = 3 := rfl
  rw [hm, hh, hn] at z
  exact z
theorem ev_us2 {E1 E2 : XK} (hc : ctx[i]? = some (some (rV (.ref a)))) (hj : ms[j]? = some (a, cInb K dx qH3 3)) : EvM B [] (tMethR (He.ga K "Inbox") "use" (spUse K) E0 (tVar i) (tCons (StX.tMakeR (He.ga K "Rule") (spRule1 K) E1 (tCons (StX.tMakeR (He.ga K "Cutter") (spCutI K) E2 (tCons (tC (.str "+..")) tNil)) tNil)) tNil)) ctx ms (rI 4) (ms.set j (a, cInb K dx qH4 4)) :=
  ev_useNe (qs := qP2) (fl := false) (⟨qH3, 3, a, dx⟩ : Ib) hc hj (ea_cons ev_rule2 ea_nil) ⟨ok_H3, by show 3 < 4; omega⟩ ok_P2 (by show ¬ sameR qP2 false qP1 false = true; rw [q_u2]; simp)
theorem ev_us3 {E1 E2 : XK} (hc : ctx[i]? = some (some (rV (.ref a)))) (hj : ms[j]? = some (a, cInb K dx qH4 3)) : EvM B [] (tMethR (He.ga K "Inbox") "use" (spUse K) E0 (tVar i) (tCons (StX.tMakeR (He.ga K "Rule") (spRule1 K) E1 (tCons (StX.tMakeR (He.ga K "Cutter") (spCutI K) E2 (tCons (tC (.str "all")) (tCons (tC (.str "..-++")) tNil))) tNil)) tNil)) ctx ms (rI 3) ms :=
  ev_useEq (qs := qP3) (fl := false) (⟨qH4, 3, a, dx⟩ : Ib) hc hj (ea_cons ev_rule3 ea_nil) ⟨ok_H4, by show 3 < 5; omega⟩ ok_P3 q_u3
end
end K62
set_option maxHeartbeats 1000000
/-! K62Gl: the law. -/
namespace K62
open PySem PySem.Spec PyProof.Rows L2
local macro_rules | `(tactic| walk_at "ev") => `(tactic| repeat' (first
  | ((with_reducible apply ev_var); exact rfl)
  | with_reducible exact ev_c
  | with_reducible exact ea_nil
  | with_reducible exact et_yes
  | with_reducible exact rv_I0
  | with_reducible exact eo_none
  | with_reducible apply eo_some
  | with_reducible apply ea_cons
  | with_reducible apply ev_op
  | (with_reducible apply ev_andV <;> try intro _)
  | (with_reducible apply ev_orV <;> try intro _)
  | with_reducible apply ev_notV
  | with_reducible apply ev_tup
  | with_reducible apply ev_lst
  | with_reducible apply ev_neg
  | with_reducible apply ev_cb
  | with_reducible apply et_B
  | with_reducible apply et_val
  | with_reducible apply et_not
  | (with_reducible apply et_and <;> try intro _)
  | (with_reducible apply et_or <;> try intro _)
  | with_reducible apply ev_call
  | with_reducible apply ev_fld
  | with_reducible exact cls_Cutter (by assumption)
  | with_reducible exact cls_Rule (by assumption)
  | with_reducible exact cls_Page (by assumption)
  | with_reducible exact cls_Inbox (by assumption)
  | with_reducible exact na_parts (by assumption)
  | with_reducible exact na_tables (by assumption)
  | with_reducible exact na_whole (by assumption)
  | with_reducible exact na_cutter (by assumption)
  | with_reducible exact na_sees (by assumption)
  | with_reducible exact na_rule (by assumption)
  | with_reducible exact na_pmarks (by assumption)
  | with_reducible exact na_letters (by assumption)
  | with_reducible exact na_bound (by assumption)
  | with_reducible exact na_shown (by assumption)
  | with_reducible exact na_moves (by assumption)
  | with_reducible exact na_near (by assumption)
  | with_reducible exact na_groups (by assumption)
  | with_reducible exact na_pages (by assumption)
  | with_reducible exact na_version (by assumption)
  | with_reducible exact na_marks (by assumption)
  | with_reducible exact isi_str (by assumption)
  | with_reducible exact isi_int (by assumption)
  | with_reducible exact isi_intbool (by assumption)
  | with_reducible exact isi_bool (by assumption)
  | with_reducible exact isi_tup (by assumption)
  | with_reducible exact isi_Cutter (by assumption)
  | with_reducible exact isi_Rule (by assumption)
  | with_reducible exact isi_Inbox (by assumption)
  | with_reducible exact rc_lenT
  | with_reducible exact rc_lenL
  | with_reducible apply rc_lenS
  | with_reducible exact rc_abs
  | with_reducible exact rc_max
  | with_reducible exact rc_min
  | with_reducible exact rc_int
  | with_reducible exact rc_intB
  | with_reducible exact rv_inSign
  | with_reducible exact rv_inT
  | with_reducible exact rv_inL
  | with_reducible exact rv_ninL
  | with_reducible exact rv_ixT0
  | with_reducible exact rv_ixT1
  | with_reducible exact rv_ixT2
  | with_reducible exact rv_ixT3
  | with_reducible exact rv_ixL0
  | with_reducible exact rv_ixL1
  | with_reducible exact rv_ixL2))
abbrev qT4 : List Rp := [rI 1, rN, rI 1, rI 1, rI 1, rI 2, rI 2, rI 4, rI 1, rI 3, rI 2, rI 1, rTup [rTup [rI 1, rI 3]], rI 3, rI 2, rTup [rI 2]]
def qD4 : PyData := .list [.int 1, .none, .int 1, .int 1, .int 1, .int 2, .int 2, .int 4, .int 1, .int 3, .int 2, .int 1, .tuple [.tuple [.int 1, .int 3]], .int 3, .int 2, .tuple [.int 2]]
theorem dat_T4 {K : Fr} : Dat K (rLst qT4) qD4 := dat_lst (.cons dat_int (.cons dat_non (.cons dat_int (.cons dat_int (.cons dat_int (.cons dat_int (.cons dat_int (.cons dat_int (.cons dat_int (.cons dat_int (.cons dat_int (.cons dat_int (.cons (dat_tup (.cons (dat_tup (.cons dat_int (.cons dat_int .nil))) .nil)) (.cons dat_int (.cons dat_int (.cons (dat_tup (.cons dat_int .nil)) .nil))))))))))))))))
theorem sh_T4 : SeqAt.shaped qD4 = true := by decide +kernel
theorem eqv_T4 : PyData.eqv qD4 qD4 = true := by simp [qD4, PyData.eqv, PyData.eqvAll]
def qD5 : PyData := .list [.int 3, .int 3, .int 4, .int 3]
theorem dat_T5 {K : Fr} : Dat K (rLst [rI 3, rI 3, rI 4, rI 3]) qD5 := dat_lst (.cons dat_int (.cons dat_int (.cons dat_int (.cons dat_int .nil))))
theorem sh_T5 : SeqAt.shaped qD5 = true := by decide +kernel
theorem eqv_T5 : PyData.eqv qD5 qD5 = true := by simp [qD5, PyData.eqv, PyData.eqvAll]
section
variable {B : Bs} {L : List Addr} {ctx : Ct} {ms : Ms} {K : PySem.W.Frag} {a dx : Addr}
theorem rv_neT4 : RvM B L (rNeD K) (rLst qT4) (rLst qT4) ctx ms (rB false) ms := by
  have z := rv_neD (K := K) (B := B) (L := L) (ctx := ctx) (ms := ms) dat_T4 dat_T4 sh_T4 sh_T4
  rw [eqv_T4] at z
  exact z
theorem rv_eqT5 : RvM B L (rEqD K) (rLst [rI 3, rI 3, rI 4, rI 3]) (rLst [rI 3, rI 3, rI 4, rI 3]) ctx ms (rB true) ms := by
  have z := rv_eqD (K := K) (B := B) (L := L) (ctx := ctx) (ms := ms) dat_T5 dat_T5 sh_T5 sh_T5
  rw [eqv_T5] at z
  exact z
theorem ok_x1 : (⟨qH1, 1, a, dx⟩ : Ib).ok := ⟨ok_H1, by show 1 < 2; omega⟩
theorem ok_x2 : (⟨qH2, 2, a, dx⟩ : Ib).ok := ⟨ok_H2, by show 2 < 3; omega⟩
theorem ok_x3 : (⟨qH3, 3, a, dx⟩ : Ib).ok := ⟨ok_H3, by show 3 < 4; omega⟩
theorem ok_x4 : (⟨qH4, 4, a, dx⟩ : Ib).ok := ⟨ok_H4, by show 4 < 5; omega⟩
theorem ok_x42 : (⟨qH4, 2, a, dx⟩ : Ib).ok := ⟨ok_H4, by show 2 < 5; omega⟩
theorem ok_x43 : (⟨qH4, 3, a, dx⟩ : Ib).ok := ⟨ok_H4, by show 3 < 5; omega⟩
abbrev qZ : InX := ⟨qP5, false, [qA2, qA1, qA3]⟩
theorem qZ_perm : [qA2, qA1, qA3].Perm [qA3, qA1, qA2] := List.reverse_perm [qA3, qA1, qA2]
theorem ok_qZ : qZ.ok := (inx_perm ok_P5 ok_l3 qZ_perm).1
theorem eqO_qZ : (EqO.inb qZ.h qZ.n).ok (⟨qH4, 3, a, dx⟩ : Ib) ∧ (EqO.inb qZ.h qZ.n).ans (⟨qH4, 3, a, dx⟩ : Ib) = true := by
  refine ⟨⟨inx_lt _, fun _ => ?_⟩, ?_⟩
  · rw [inx_at]
    show srt [qA3, qA1, qA2] = srt (addAs [] [qA2, qA1, qA3])
    rw [(inx_perm (se := false) ok_P5 ok_l3 qZ_perm).2]
    exact srt_perm_eq qZ_perm.symm ok_l3.nd
  · show sameR qP1 false (atE qZ.h qZ.n).ps (atE qZ.h qZ.n).se = true
    rw [inx_at]
    exact q_u5
def nCells (ns : List Int) : Int := if (if (ns.length : Int) < 4 then (ns.length : Int) else 4) > 1 then (if (ns.length : Int) < 4 then (ns.length : Int) else 4) else 1
theorem nCells_le (ns : List Int) : 1 ≤ nCells ns ∧ nCells ns ≤ 4 := by
  unfold nCells
  split <;> split at * <;> omega
end
section
variable {P : Program} {w : World} {K : PySem.W.Frag} {mg : Str → Option Value} {base : Heap}
abbrev spLaw (K : Fr) : Sp := spF (fun (_ : List Int) L => L = []) (fun ns => [rScr K ns]) (fun _ => []) (fun _ => []) (fun _ => rB true)
theorem sc_law : FnScope ["_law_script", "_law_at", "_law_inbox", "_law_told", "_law_other"] ["_law_script"] (defScope s_law) := ⟨rfl, rfl, rfl, by decide +kernel, rfl, by decide +kernel, by decide +kernel⟩
theorem cl_law (T : Tx P w K mg base) : ClQ P w K mg base 11 "law" (spLaw K) := by
  have c_law_right := cl_law_right T
  have c_law_dice := cl_law_diceS T
  have k_Inbox := k_Inbox_ T
  have k_Rule := k_Rule_ T
  have k_Cutter := k_Cutter_ T
  have p_Inbox_version := pp_Inbox_version T
  have p_Inbox_groups := pp_Inbox_groups T
  have m_Inbox_shown := mt_Inbox_shown T
  have m_Inbox_receive := m_Inbox_receive_ T
  have m_Inbox_moves := mt_Inbox_moves T
  have m_Inbox_below := mt_Inbox_below T
  have m_Inbox_use := mt_Inbox_use T
  have mk_Inbox_undo := mk_Inbox_undo_ T
  have m_Inbox_undo := m_Inbox_undo_ T
  have m_Inbox_redo := m_Inbox_redo_ T
  have o_Inbox_eq := ow_Inbox_eq T
  have ne_Inbox := ne_of_ (T.fact fi_ne_Inbox)
  have mro_Inbox := mro_of (T.fact fi_ins_Inbox)
  obtain ⟨fd, F⟩ := T.def_ di_law
  refine ⟨_, T.glo fi_glo_law, F.kp, fnQ_of F sc_law (fun _ => rfl) (fun _ _ _ _ _ _ us hl => match us, hl with | [_], _ => rfl) fun cdv A outer s H0 vs Q E hr hg ns L G hp k S => ?_⟩
  have hp : L = [] := hp
  subst hp
  have S : Sx ⟨[], G, H0⟩ [] [some (rScr K ns), none, none, none, none] [] _ G H0 := S
  have k : ∀ ctx σ G' H', Sx ⟨[], G, H0⟩ [] ctx [] σ G' H' → ∀ v, (rB true).ok v G' → Q v H' := k
  refine ⟨_, (pss_cons (ps_for PassesOwn.never rfl (pi_range1 (by rfl) (T.free fi_free_range) (pa_cons (pe_callB (id := "max") (call_max2 rfl) (by rfl) (T.free fi_free_max) (by decide +kernel) (pa_cons pe_int (pa_cons (pe_callB (id := "min") (call_min2 rfl) (by rfl) (T.free fi_free_min) (by decide +kernel) (pa_cons pe_int (pa_cons (pe_callB (id := "len") (call_lenK (K := K)) (by rfl) (T.free fi_free_len) (by decide +kernel) (pa_cons (pv 0) pa_nil)) pa_nil))) pa_nil))) pa_nil)) (pg_name (i := 1) sc_law.nd rfl (Or.inl rfl))
      (pss_one (ps_if (pt_not (pt_val (pe_callQ c_law_right hg hr (by decide) (by rfl) (pa_cons (pe_callR c_law_dice hr (by decide) (by rfl) (pa_cons (pv 0) (pa_cons (pv 1) pa_nil))) pa_nil)))) (pss_one (ps_ret pe_bl)) pss_nil)))
    (pss_cons (ps_set (i := 2) sc_law.nd rfl (Or.inl rfl) (pe_mk k_Inbox hr (by decide) (by rfl) (pa_cons (pe_mk k_Rule hr (by decide) (by rfl) (pa_cons (pe_mk k_Cutter hr (by decide) (by rfl) (pa_cons pe_str pa_nil)) pa_nil)) (pa_cons (pe_tup (pa_cons pe_int (pa_cons pe_str (pa_cons (pe_tup (pa_cons pe_int (pa_cons pe_int pa_nil))) pa_nil)))) pa_nil))))
    (pss_cons (ps_set (i := 3) sc_law.nd rfl (Or.inl rfl) (pe_lst (pa_cons (pe_pp (T.cls fi_cls_Inbox) p_Inbox_version hr (by decide) (pv 2)) (pa_cons (pe_mt (T.cls fi_cls_Inbox) m_Inbox_shown hr (by decide) (pv 2) (pa_cons pe_int pa_nil)) (pa_cons (pe_mt (T.cls fi_cls_Inbox) m_Inbox_receive hr (by decide) (pv 2) (pa_cons (pe_tup (pa_cons pe_int (pa_cons pe_str (pa_cons (pe_tup pa_nil) pa_nil)))) pa_nil)) (pa_cons (pe_mt (T.cls fi_cls_Inbox) m_Inbox_shown hr (by decide) (pv 2) (pa_cons pe_int pa_nil)) pa_nil))))))
    (pss_cons (ps_expr (pe_bmK (K := K) PySem.F.plainAttrs_list PySem.F.slot_list_append PySem.F.type_list_append mt_append (pv 3) (pa_cons (pe_mt (T.cls fi_cls_Inbox) m_Inbox_receive hr (by decide) (pv 2) (pa_cons (pe_tup (pa_cons pe_int (pa_cons pe_str (pa_cons (pe_tup (pa_cons pe_int (pa_cons pe_int pa_nil))) pa_nil)))) pa_nil)) pa_nil)))
    (pss_cons (ps_set (i := 3) sc_law.nd rfl (Or.inl rfl) (pe_op op_cat (pv 3) (pe_lst (pa_cons (pe_mt (T.cls fi_cls_Inbox) m_Inbox_shown hr (by decide) (pv 2) (pa_cons pe_int pa_nil)) (pa_cons (pe_mt (T.cls fi_cls_Inbox) m_Inbox_moves hr (by decide) (pv 2) (pa_cons pe_int pa_nil)) (pa_cons (pe_mt (T.cls fi_cls_Inbox) m_Inbox_use hr (by decide) (pv 2) (pa_cons (pe_mk k_Rule hr (by decide) (by rfl) (pa_cons (pe_mk k_Cutter hr (by decide) (by rfl) (pa_cons pe_str pa_nil)) pa_nil)) pa_nil)) (pa_cons (pe_mt (T.cls fi_cls_Inbox) m_Inbox_shown hr (by decide) (pv 2) (pa_cons pe_int pa_nil)) (pa_cons (pe_mt (T.cls fi_cls_Inbox) m_Inbox_moves hr (by decide) (pv 2) (pa_cons pe_int pa_nil)) pa_nil))))))))
    (pss_cons (ps_set (i := 3) sc_law.nd rfl (Or.inl rfl) (pe_op op_cat (pv 3) (pe_lst (pa_cons (pe_mtK (T.cls fi_cls_Inbox) mk_Inbox_undo hr (by decide) (pv 2) (pk_cons pe_int pk_nil)) (pa_cons (pe_mt (T.cls fi_cls_Inbox) m_Inbox_moves hr (by decide) (pv 2) (pa_cons pe_int pa_nil)) (pa_cons (pe_pp (T.cls fi_cls_Inbox) p_Inbox_groups hr (by decide) (pv 2)) (pa_cons (pe_mt0 (T.cls fi_cls_Inbox) m_Inbox_redo hr (by decide) (pv 2)) (pa_cons (pe_mt (T.cls fi_cls_Inbox) m_Inbox_moves hr (by decide) (pv 2) (pa_cons pe_int pa_nil)) (pa_cons (pe_mt (T.cls fi_cls_Inbox) m_Inbox_below hr (by decide) (pv 2) (pa_cons pe_int pa_nil)) pa_nil)))))))))
    (pss_cons (ps_if (pt_cmpR (op_neDK (K := K) hr.units) (pv 3) (pe_lst (pa_cons pe_int (pa_cons pe_non (pa_cons pe_int (pa_cons pe_int (pa_cons pe_int (pa_cons pe_int (pa_cons pe_int (pa_cons pe_int (pa_cons pe_int (pa_cons pe_int (pa_cons pe_int (pa_cons pe_int (pa_cons (pe_tup (pa_cons (pe_tup (pa_cons pe_int (pa_cons pe_int pa_nil))) pa_nil)) (pa_cons pe_int (pa_cons pe_int (pa_cons (pe_tup (pa_cons pe_int pa_nil)) pa_nil))))))))))))))))) (nomark _)) (pss_one (ps_ret pe_bl)) pss_nil)
    (pss_cons (ps_set (i := 3) sc_law.nd rfl (Or.inl rfl) (pe_lst (pa_cons (pe_mt (T.cls fi_cls_Inbox) m_Inbox_use hr (by decide) (pv 2) (pa_cons (pe_mk k_Rule hr (by decide) (by rfl) (pa_cons (pe_mk k_Cutter hr (by decide) (by rfl) (pa_cons pe_str (pa_cons pe_str pa_nil))) pa_nil)) pa_nil)) (pa_cons (pe_pp (T.cls fi_cls_Inbox) p_Inbox_version hr (by decide) (pv 2)) (pa_cons (pe_mt0 (T.cls fi_cls_Inbox) m_Inbox_redo hr (by decide) (pv 2)) (pa_cons (pe_mt0 (T.cls fi_cls_Inbox) m_Inbox_undo hr (by decide) (pv 2)) pa_nil))))))
    (pss_cons (ps_set (i := 4) sc_law.nd rfl (Or.inl rfl) (pe_mk k_Inbox hr (by decide) (by rfl) (pa_cons (pe_mk k_Rule hr (by decide) (by rfl) (pa_cons (pe_mk k_Cutter hr (by decide) (by rfl) (pa_cons pe_str (pa_cons pe_str pa_nil))) pa_nil)) (pa_cons (pe_tup (pa_cons pe_int (pa_cons pe_str (pa_cons (pe_tup (pa_cons pe_int (pa_cons pe_int pa_nil))) pa_nil)))) (pa_cons (pe_tup (pa_cons pe_int (pa_cons pe_str (pa_cons (pe_tup pa_nil) pa_nil)))) (pa_cons (pe_tup (pa_cons pe_int (pa_cons pe_str (pa_cons (pe_tup (pa_cons pe_int (pa_cons pe_int pa_nil))) pa_nil)))) pa_nil))))))
    (pss_one (ps_ret (pe_and (pe_cmpR (op_eqDK (K := K) hr.units) (pv 3) (pe_lst (pa_cons pe_int (pa_cons pe_int (pa_cons pe_int (pa_cons pe_int pa_nil))))) (nomark _)) (pe_and (pe_cmpR (op_eqK (K := K) o_Inbox_eq hr (by decide)) (pv 2) (pv 4) (nomark _)) (pe_one (pe_not (pe_cmpR (op_neK (K := K) o_Inbox_eq ne_Inbox mro_Inbox hr (by decide)) (pv 2) (pv 4) (nomark _))))))))))))))))), ?_⟩
  try dsimp only [L2.cxOf]
  have hM := nCells_le ns
  refine st_for (ι := Unit) (ei_rng1 (ms1 := []) (m := nCells ns) (n := (nCells ns).toNat) ?_ rfl (by omega) (by omega)) S (fun _ _ => True) (fun _ => [some (rScr K ns), none, none, none, none]) (fun _ => []) () trivial (fun B σ G H S => S) (fun B1 G1 H1 i r u σ2 G2 H2 e1 hr0 _ e2 hl un sm S2 => ?_) (fun u σ2 G2 H2 _ e1 S2 => ?_)
  · exact ea_cons (ev_cb (ea_cons ev_c (ea_cons (ev_cb (ea_cons ev_c (ea_cons (ev_cb (ea_cons (ev_var rfl) ea_nil) rc_lenScr) ea_nil)) rc_min) ea_nil)) rc_max) ea_nil
  · rw [List.getElem?_map] at hr0
    cases hq : (List.range (nCells ns).toNat)[i]? with
    | none => rw [hq] at hr0; cases hr0
    | some i' =>
      have hi' : i' ≤ 1000 := by
        have := List.mem_range.mp (List.mem_of_getElem? hq)
        omega
      rw [hq] at hr0
      cases hr0
      refine ⟨_, [1], gm_name (by simp), fun σ3 G3 H3 e3 S3 => ?_⟩
      refine st_ifFP ?_ S3 fun G4 H4 e4 S4 => ?_
      · exact et_b (et_not (et_B (ev_rightDice (n := i') (ns := ns) rfl rfl hi'))) rfl
      · exact ⟨(), G4, trivial, S4.weak (by repeat' constructor)⟩
  dsimp only
  refine st_mkInb (z := ⟨qP1, false, [qA3]⟩) (i := 2) (ms1 := []) (ea_cons ev_rule1 (ea_cons ev_a3 ea_nil)) ok_z1 S2 fun a dx σ4 G4 H4 e4 S4 => ?_
  dsimp only
  have S4 : Sx ⟨[], G, H0⟩ [] [some (rScr K ns), none, some (rV (.ref a)), none, none] [(a, cInb K dx qH1 1)] _ _ _ := S4
  refine st_lstM (i := 3) (rs := [rI 1, rN, rI 1, rI 1]) (ms1 := [(a, cInb K dx qH2 2)]) ?_ (by simp) S4 fun t σ5 G5 H5 e5 S5 => ?_
  · refine ea_cons (ms1 := [(a, cInb K dx qH1 1)]) ?_ (ea_cons (ms1 := [(a, cInb K dx qH1 1)]) ?_ (ea_cons (ms1 := [(a, cInb K dx qH2 2)]) ?_ (ea_cons (ms1 := [(a, cInb K dx qH2 2)]) ?_ ea_nil)))
    · exact ev_version (⟨qH1, 1, a, dx⟩ : Ib) (j := 0) rfl rfl ok_x1
    · exact ev_is (ev_shown (⟨qH1, 1, a, dx⟩ : Ib) 3 (j := 0) rfl (ea_cons ev_c ea_nil) rfl ok_x1 q_i1) (congrArg rOpt q_s1)
    · exact ev_rcA1 (j := 0) rfl rfl
    · exact ev_is (ev_shown (⟨qH2, 2, a, dx⟩ : Ib) 3 (j := 0) rfl (ea_cons ev_c ea_nil) rfl ok_x2 q_i2) (congrArg rOpt q_s2)
  dsimp only
  have S5 : Sx ⟨[], G, H0⟩ [] [some (rScr K ns), none, some (rV (.ref a)), some (rV (.ref t)), none] [(t, .lst [rI 1, rN, rI 1, rI 1]), (a, cInb K dx qH2 2)] _ _ _ := S5
  refine st_drop (r := rN) (ms1 := [(t, .lst [rI 1, rN, rI 1, rI 1, rI 1]), (a, cInb K dx qH3 3)]) ?_ S5 fun G6 H6 e6 S6 => ?_
  · exact ev_append (j := 0) (ms1 := [(t, .lst [rI 1, rN, rI 1, rI 1]), (a, cInb K dx qH2 2)]) (ms2 := [(t, .lst [rI 1, rN, rI 1, rI 1]), (a, cInb K dx qH3 3)]) (ev_var rfl) (ea_cons (ev_rcA2 (j := 1) rfl rfl) ea_nil) ⟨0, _, rfl⟩ rfl (by simp)
  dsimp only
  obtain ⟨G7, e7, S7⟩ := S6.freezeS (i := 3) ((S6.own _ List.mem_cons_self).resolve_left (by simp)) rfl
  have S7 : Sx ⟨[], G, H0⟩ [] [some (rScr K ns), none, some (rV (.ref a)), some (rLst [rI 1, rN, rI 1, rI 1, rI 1]), none] [(a, cInb K dx qH3 3)] _ _ _ := S7
  refine st_set (i := 3) (r := rLst [rI 1, rN, rI 1, rI 1, rI 1, rI 2, rI 2, rI 4, rI 1, rI 3]) (ms1 := [(a, cInb K dx qH4 4)]) ?_ S7 fun σ8 G8 H8 e8 S8 => ?_
  · refine ev_is (ev_op (ms1 := [(a, cInb K dx qH3 3)]) (ms2 := [(a, cInb K dx qH4 4)]) (ev_var rfl) (ev_lst (rs := [rI 2, rI 2, rI 4, rI 1, rI 3]) ?_ (by simp)) (rv_cat (by simp))) rfl
    refine ea_cons (ms1 := [(a, cInb K dx qH3 3)]) ?_ (ea_cons (ms1 := [(a, cInb K dx qH3 3)]) ?_ (ea_cons (ms1 := [(a, cInb K dx qH4 4)]) ?_ (ea_cons (ms1 := [(a, cInb K dx qH4 4)]) ?_ (ea_cons (ms1 := [(a, cInb K dx qH4 4)]) ?_ ea_nil))))
    · exact ev_is (ev_shown (⟨qH3, 3, a, dx⟩ : Ib) 3 (j := 0) rfl (ea_cons ev_c ea_nil) rfl ok_x3 q_i3) (congrArg rOpt q_s3)
    · exact ev_is (ev_moves (⟨qH3, 3, a, dx⟩ : Ib) 3 (j := 0) rfl (ea_cons ev_c ea_nil) rfl ok_x3 q_i3) (congrArg (fun n : Nat => rN_ n) q_m3)
    · exact ev_us2 (j := 0) rfl rfl
    · exact ev_is (ev_shown (⟨qH4, 4, a, dx⟩ : Ib) 3 (j := 0) rfl (ea_cons ev_c ea_nil) rfl ok_x4 q_i4) (congrArg rOpt q_s4)
    · exact ev_is (ev_moves (⟨qH4, 4, a, dx⟩ : Ib) 3 (j := 0) rfl (ea_cons ev_c ea_nil) rfl ok_x4 q_i4) (congrArg (fun n : Nat => rN_ n) q_m4)
  dsimp only
  have S8 : Sx ⟨[], G, H0⟩ [] [some (rScr K ns), none, some (rV (.ref a)), some (rLst [rI 1, rN, rI 1, rI 1, rI 1, rI 2, rI 2, rI 4, rI 1, rI 3]), none] [(a, cInb K dx qH4 4)] _ _ _ := S8
  refine st_set (i := 3) (r := rLst qT4) (ms1 := [(a, cInb K dx qH4 3)]) ?_ S8 fun σ9 G9 H9 e9 S9 => ?_
  · refine ev_is (ev_op (ms1 := [(a, cInb K dx qH4 4)]) (ms2 := [(a, cInb K dx qH4 3)]) (ev_var rfl) (ev_lst (rs := [rI 2, rI 1, rTup [rTup [rI 1, rI 3]], rI 3, rI 2, rTup [rI 2]]) ?_ (by simp)) (rv_cat (by simp))) rfl
    refine ea_cons (ms1 := [(a, cInb K dx qH4 2)]) ?_ (ea_cons (ms1 := [(a, cInb K dx qH4 2)]) ?_ (ea_cons (ms1 := [(a, cInb K dx qH4 2)]) ?_ (ea_cons (ms1 := [(a, cInb K dx qH4 3)]) ?_ (ea_cons (ms1 := [(a, cInb K dx qH4 3)]) ?_ (ea_cons (ms1 := [(a, cInb K dx qH4 3)]) ?_ ea_nil)))))
    · exact ev_undo (n := 2) (⟨qH4, 4, a, dx⟩ : Ib) (j := 0) rfl rfl (ea_cons (ev_is (r2 := rN_ 2) ev_c rfl) ea_nil) ok_x4 (by show 2 ≤ 4; omega)
    · exact ev_is (ev_moves (⟨qH4, 2, a, dx⟩ : Ib) 3 (j := 0) rfl (ea_cons ev_c ea_nil) rfl ok_x42 q_i2) (congrArg (fun n : Nat => rN_ n) q_m42)
    · exact ev_is (ev_groups (⟨qH4, 2, a, dx⟩ : Ib) (j := 0) rfl rfl ok_x42) (congrArg (fun g : List (List Int) => rTup (g.map rInts)) q_gr)
    · exact ev_redo1 (⟨qH4, 2, a, dx⟩ : Ib) (j := 0) rfl rfl ok_x42 (by show 2 + 1 < 5; omega)
    · exact ev_is (ev_moves (⟨qH4, 3, a, dx⟩ : Ib) 3 (j := 0) rfl (ea_cons ev_c ea_nil) rfl ok_x43 q_i3) (congrArg (fun n : Nat => rN_ n) q_m43)
    · exact ev_is (ev_below (⟨qH4, 3, a, dx⟩ : Ib) 1 (j := 0) rfl (ea_cons ev_c ea_nil) rfl ok_x43 q_i31) (congrArg (fun l : List Int => rInts l) q_b3)
  dsimp only
  have S9 : Sx ⟨[], G, H0⟩ [] [some (rScr K ns), none, some (rV (.ref a)), some (rLst qT4), none] [(a, cInb K dx qH4 3)] _ _ _ := S9
  refine st_ifFP ?_ S9 fun G10 H10 e10 S10 => ?_
  · refine et_val (ev_op (ev_var rfl) (ev_lst ?_ (by simp)) rv_neT4)
    exact ea_cons ev_c (ea_cons ev_c (ea_cons ev_c (ea_cons ev_c (ea_cons ev_c (ea_cons ev_c (ea_cons ev_c (ea_cons ev_c (ea_cons ev_c (ea_cons ev_c (ea_cons ev_c (ea_cons ev_c (ea_cons (ev_tup (ea_cons (ev_tup (ea_cons ev_c (ea_cons ev_c ea_nil)) (by simp)) ea_nil) (by simp)) (ea_cons ev_c (ea_cons ev_c (ea_cons (ev_tup (ea_cons ev_c ea_nil) (by simp)) ea_nil)))))))))))))))
  dsimp only [tNext]
  refine st_set (i := 3) (r := rLst [rI 3, rI 3, rI 4, rI 3]) (ms1 := [(a, cInb K dx qH4 3)]) ?_ S10 fun σ11 G11 H11 e11 S11 => ?_
  · refine ev_lst ?_ (by simp)
    refine ea_cons (ms1 := [(a, cInb K dx qH4 3)]) ?_ (ea_cons (ms1 := [(a, cInb K dx qH4 3)]) ?_ (ea_cons (ms1 := [(a, cInb K dx qH4 4)]) ?_ (ea_cons (ms1 := [(a, cInb K dx qH4 3)]) ?_ ea_nil)))
    · exact ev_us3 (j := 0) rfl rfl
    · exact ev_version (⟨qH4, 3, a, dx⟩ : Ib) (j := 0) rfl rfl ok_x43
    · exact ev_redo1 (⟨qH4, 3, a, dx⟩ : Ib) (j := 0) rfl rfl ok_x43 (by show 3 + 1 < 5; omega)
    · exact ev_undo1 (⟨qH4, 4, a, dx⟩ : Ib) (j := 0) rfl rfl ok_x4 (by show 1 ≤ 4; omega)
  dsimp only
  have S11 : Sx ⟨[], G, H0⟩ [] [some (rScr K ns), none, some (rV (.ref a)), some (rLst [rI 3, rI 3, rI 4, rI 3]), none] [(a, cInb K dx qH4 3)] _ _ _ := S11
  refine st_setP (i := 4) ((EqO.inb qZ.h qZ.n).rp K) ?_ S11 fun σ12 G12 H12 e12 S12 => ?_
  · exact ev_mkInb (z := qZ) (fun B => ea_cons ev_rule5 (ea_cons ev_a2 (ea_cons ev_a1 (ea_cons ev_a3 ea_nil)))) ok_qZ
  dsimp only
  refine st_retP (rB true) ?_ S12 fun v G' H' e S' hv => k _ _ G' H' S'.forget v hv
  refine ev_andT (ms1 := [(a, cInb K dx qH4 3)]) ?_ (ev_andT (ms1 := [(a, cInb K dx qH4 3)]) ?_ ?_)
  · exact ev_op (ev_var rfl) (ev_lst (ea_cons ev_c (ea_cons ev_c (ea_cons ev_c (ea_cons ev_c ea_nil)))) (by simp)) rv_eqT5
  · refine ev_b (ev_op (ev_var rfl) (ev_var rfl) (rv_eqI T (⟨qH4, 3, a, dx⟩ : Ib) (.inb qZ.h qZ.n) 0 rfl ok_x43 eqO_qZ.1)) eqO_qZ.2
  · refine ev_b (ev_notV (ev_op (ev_var rfl) (ev_var rfl) (rv_neI T (⟨qH4, 3, a, dx⟩ : Ib) (.inb qZ.h qZ.n) 0 rfl ok_x43 eqO_qZ.1))) ?_
    rw [eqO_qZ.2]; rfl
end
end K62
set_option maxHeartbeats 4000000
/-! K62Z: the end. -/
namespace K62
open PySem PySem.Spec PyProof.Rows L2
/-- the heap that the call sees: the script alone, frozen, or nothing -/
structure Seen (K : Fr) (a : Addr) (H : Hp) : Prop where
  only : Only H
  one : ∀ c, H c ≠ none → c = a
  free : H a ≠ none → K.lookup a = none
section
variable {P : Program} {w : World} {K : Fr} {mg mb : Str → Option Value} {n : Nat} {fl a : Addr} {sp : Sp} {t : Shared} {us : List Value} {is : List Int}
theorem Seen.dict (e : Seen K a H) (ha : t.heap.get? a = some { cls := .type "list", data := .seq us.toArray }) {c : Addr} {u : Obj} {es : Array DictEntry} {ep : Nat} (h : t.heap.get? c = some u) (d : u.data = .dict es ep) : H c = none := by
  cases q : H c with
  | none => rfl
  | some z =>
    have hc : c = a := e.one c (fun y => by rw [q] at y; cases y)
    subst hc
    rw [ha] at h
    cases h
    exact nomatch (show Data.seq us.toArray _ = Data.dict es ep from d)
theorem Seen.names (e : Seen K a H) (ha : t.heap.get? a = some { cls := .type "list", data := .seq us.toArray }) {c : Addr} {m : Str → Option Value} (h : t.heap.Ns c m) : (hidT t.heap H).Ns c m := by
  obtain ⟨o, es, ep, h1, h2, h3⟩ := h
  exact ⟨o, es, ep, hidT_get h1 (e.dict ha h1 h2), h2, h3⟩
theorem Seen.text (e : Seen K a H) (hK : K.In t.heap) : K.In (hidT t.heap H) := fun c u h => by
  refine hidT_get (hK c u h) ?_
  cases q : H c with
  | none => rfl
  | some z =>
    have hc : c = a := e.one c (fun y => by rw [q] at y; cases y)
    subst hc
    rw [e.free fun y => by rw [q] at y; cases y] at h
    cases h
/-- the call from such a heap -/
theorem call_seen {H : Hp} (e : Seen K a H) (hK : K.In t.heap) (hm : t.heap.Ns mainGlobals mg) (hb : t.heap.Ns builtinsNs mb) (hbb : ∀ x : Str, x ≠ "__name__" → mb x = bootBuiltins x) (hl : t.heap.NoLimit) (hg : t.gens = #[])
    (ha : t.heap.get? a = some { cls := .type "list", data := .seq us.toArray }) (hok : HOk P w H t.heap) (hr : Room n callerA) (F : ∀ base : Heap, K.In base → base.Ns mainGlobals mg → FnQ P w K mg base n fl sp) (hs : sp [.ref a] H (fun v _ => v = .bl true) fun _ _ _ => False) :
    codeAny (model P w) callerA (.call (.ref fl) ⟨[.ref a], []⟩) (fun r t' => r = .ok (.ret (.bool true)) ∧ OldK t.heap t'.heap ∧ t'.os = t.os ∧ AllBare t'.gens) t := by
  have hm' := e.names ha hm
  have md : Mod K mg (hidT t.heap H) := by
    refine ⟨e.text hK, hm', ⟨mb, e.names ha hb, hbb⟩, ?_⟩
    obtain ⟨m, h1, h2⟩ := hl
    exact ⟨m, e.names ha h1, h2⟩
  have env : Env0 P w K mg (hidT t.heap H) callerA [] t H := ⟨rfl, md, fun c u h => of_hidT h, Nat.le_of_eq (hidT_size _ _), trivial, fun c hc => absurd hc List.not_mem_nil, hok, .of_eq hg⟩
  refine codeAny_mono (F _ (e.text hK) hm' callerA [] t H [.ref a] [.ref a] _ _ rfl hr env (.cons rfl .nil) hs) fun r t' h => ?_
  match r, h with
  | .error _, h => exact False.elim h
  | .ok .next, h => exact False.elim h
  | .ok .brk, h => exact False.elim h
  | .ok .cont, h => exact False.elim h
  | .ok (.ret u), ⟨v, H', os, bare, un, hok', rv, q⟩ =>
    have q : v = .bl true := q
    subst q
    have ru : u = Value.bool true := rv
    subst ru
    refine ⟨rfl, OldK.of_keep fun c u h => ?_, os, bare⟩
    rcases e.only c with z | ⟨ob, xs, z⟩
    · exact un.keep c u h z (fun y => absurd y List.not_mem_nil) List.not_mem_nil
    · obtain ⟨h1, _⟩ := hok c _ z
      obtain ⟨h2, _⟩ := hok' c _ (un.frzs c ob _ z)
      rw [h] at h1
      cases h1
      exact h2
theorem call_law (hK : K.In t.heap) (hm : t.heap.Ns mainGlobals mg) (hb : t.heap.Ns builtinsNs mb) (hbb : ∀ x : Str, x ≠ "__name__" → mb x = bootBuiltins x) (hl : t.heap.NoLimit) (hg : t.gens = #[])
    (ha : t.heap.get? a = some { cls := .type "list", data := .seq us.toArray }) (hi : IntsAre us is) (hz : is.length ≤ sizeLine) (hr : Room n callerA) (F : ∀ base : Heap, K.In base → base.Ns mainGlobals mg → FnQ P w K mg base n fl sp)
    (hs : ∀ H : Hp, Only H → ((∃ ob, H a = some (.frz ob (.lst (is.map V.int)))) ∨ ∀ H' : Hp, SqL K H' a (is.map V.int)) → sp [.ref a] H (fun v _ => v = .bl true) fun _ _ _ => False) :
    codeAny (model P w) callerA (.call (.ref fl) ⟨[.ref a], []⟩) (fun r t' => r = .ok (.ret (.bool true)) ∧ OldK t.heap t'.heap ∧ t'.os = t.os ∧ AllBare t'.gens) t := by
  have rv := vals_ints hi
  have lv := hi.length
  rcases hq : K.lookup a with _ | o
  · -- frozen
    let obj : Obj := { cls := .type "list", data := .seq us.toArray }
    let H : Hp := fun c => if c = a then some (.frz obj (.lst (is.map V.int))) else none
    have at_ : H a = some (.frz obj (.lst (is.map V.int))) := if_pos rfl
    have off : ∀ c, c ≠ a → H c = none := fun c hc => if_neg hc
    have e : Seen K a H := ⟨fun c => by
      by_cases z : c = a
      · subst z; exact .inr ⟨_, _, at_⟩
      · exact .inl (off c z), fun c hc => by
      by_cases z : c = a
      · exact z
      · exact absurd (off c z) hc, fun _ => hq⟩
    refine call_seen e hK hm hb hbb hl hg ha (fun c u h => ?_) hr F (hs H e.only (.inl ⟨obj, at_⟩))
    by_cases z : c = a
    · subst z
      rw [at_] at h
      cases h
      exact ⟨ha, by rw [List.length_map]; exact hz, us, _, rv, ha⟩
    · rw [off c z] at h
      cases h
  · -- one of the text's own
    have h1 := hK a o hq
    rw [ha] at h1
    cases h1
    have e : Seen K a (fun _ => none) := ⟨fun _ => .inl rfl, fun c hc => absurd rfl hc, fun hc => absurd rfl hc⟩
    refine call_seen e hK hm hb hbb hl hg ha (fun c u h => nomatch h) hr F (hs _ e.only (.inr fun H' => ?_))
    exact .inr ⟨_, us.toArray, _, hq, rfl, rfl, rfl, by rw [List.size_toArray, lv]; exact hz, by simpa using rv⟩
/-- the law, called -/
theorem walk_law {l : PySem.W.OpenLaw} {m n : Nat} {q : Program} {loose : List Str} {XP : (Str → Option Value) → Heap → Prop} {YP : World → Heap → Prop} {d : DefRec} (hm : l.most = some m) (hm2 : m ≤ sizeLine) (hdf : d.params.defaults = []) (hr : Room n callerA)
    (F : ∀ (w : World) (mg : Str → Option Value) (fl : Addr) (h : Heap), YP w h → h.Ns mainGlobals mg → mg d.name = some (.ref fl) → ∃ (K : Fr) (sp : Sp), K.In h ∧
      (∀ (H : Hp) (a : Addr) (is : List Int), Only H → ((∃ ob, H a = some (.frz ob (.lst (is.map V.int)))) ∨ ∀ H' : Hp, SqL K H' a (is.map V.int)) → sp [.ref a] H (fun v _ => v = .bl true) fun _ _ _ => False) ∧
      ∀ base : Heap, K.In base → base.Ns mainGlobals mg → FnQ l.prog w K mg base n fl sp) :
    PySem.W.WalkO q loose XP YP l.row.toRowW d [] (fun f vs => PySem.call f vs) := by
  refine Att.attach_call hm hdf fun w s t mg mb fl o pm cd doc a us is G Y ho hd hcd hmg hobj hints hlen hg => ?_
  obtain ⟨K, sp, hK, hs, hF⟩ := F w mg fl _ Y G.T.g hmg
  exact call_law hK G.T.g G.T.b G.T.builtins G.T.nolimit hg hobj hints (Nat.le_trans hlen hm2) hr hF fun H => hs H a is
end
/-- the law's promise, over the text's facts -/
theorem law_ends {P : Program} {w : World} {mg : Str → Option Value} {fl : Addr} {h : Heap} {K : Fr} (hK : K.In h) (hm : h.Ns mainGlobals mg) (hmg : mg ("law" : Str) = some (.ref fl)) (c : SaysM facts fns K) : ∃ sp : Sp,
    (∀ (H : Hp) (a : Addr) (is : List Int), Only H → ((∃ ob, H a = some (.frz ob (.lst (is.map V.int)))) ∨ ∀ H' : Hp, SqL K H' a (is.map V.int)) → sp [.ref a] H (fun v _ => v = .bl true) fun _ _ _ => False) ∧
      ∀ base : Heap, K.In base → base.Ns mainGlobals mg → FnQ P w K mg base 11 fl sp := by
  refine ⟨spLaw K, fun H a is _ hs => ⟨is, [], rfl, H, ⟨fun c u e => .inl ⟨by simp, e⟩, fun c hc => by cases hc⟩, .cons ⟨a, rfl, hs⟩ .nil, mem_nil, fun v G' H' _ _ _ hv => hv⟩, fun base h1 h2 => ?_⟩
  obtain ⟨f, e1, _, F⟩ := (cl_law (P := P) (w := w) (⟨c, h1, h2⟩ : Tx P w K mg base)).ex
  rw [hmg] at e1
  cases e1
  exact F
end K62
open PySem PySem.W PySem.Calls PyProof.Rows
theorem PySem.Challenge.cw_namedabove_k62_whole_histories_of_inboxe_holds : PySem.Challenge.rw_namedabove_k62_whole_histories_of_inboxe.Holds := by
  w_on; o_law
  refine HandSHeadRun.head_any (r := OpenLaw.row PySem.Challenge.rw_namedabove_k62_whole_histories_of_inboxe) (q := K62.qv) (H := K62.hk) (ob := K62.ob) (M := 11000) (loose := K62.names) (d := HandSHeadRun.topDef (OpenLaw.row PySem.Challenge.rw_namedabove_k62_whole_histories_of_inboxe).prog 101) (kwd := []) K62.ob_eq
    (by kernel_rfl) (fun s => by kernel_rfl) K62.run (by kernel_rfl) (by kernel_rfl) (by kernel_rfl) (by rfl) (by first | assumption | decide +kernel) (by decide +kernel) ⟨rfl, rfl, rfl, rfl, rfl, by decide +kernel⟩ ?hw ?hc
  case hw => w_witness2
  case hc =>
    refine K62.walk_law (l := PySem.Challenge.rw_namedabove_k62_whole_histories_of_inboxe) (m := 63) (n := 11) rfl (by decide) (by kernel_rfl) ⟨rfl, by decide, by decide⟩ ?F
    intro w mg fl h Y G hmg0
    obtain ⟨K, KX, c⟩ := Y
    have hmg : mg ("law" : PySem.Str) = some (.ref fl) := by
      have e : (HandSHeadRun.topDef (OpenLaw.row PySem.Challenge.rw_namedabove_k62_whole_histories_of_inboxe).prog 101).name = ("law" : PySem.Str) := by kernel_rfl
      rw [← e]
      exact hmg0
    obtain ⟨sp, hs, hF⟩ := K62.law_ends (P := (PySem.Challenge.rw_namedabove_k62_whole_histories_of_inboxe).prog) (w := w) KX G hmg c
    exact ⟨K, sp, KX, hs, hF⟩
