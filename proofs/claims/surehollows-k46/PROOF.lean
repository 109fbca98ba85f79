import PyProof.Rows.All
import Wide.All
import OpenK.AllK
import Wide.FinOn
import PyProof.EqAt
import PyProof.EqKinds
import PyProof.TupleCall
import KE.KLam
import KE.KStateDown
import HandS.Base
import HandS.Call
import HandS.List
import HandS.Comp
import HandS.Ends
import HandS.Dict
import HandS.Iter
import HandS.Text
import HandS.More
import HandS.Words
import HandS.WordsList
import HandS.WordsDict
import HandS.Exc
import HandS.TryOnly
import HandS.Codes
import HandS.Defaults
import HandS.IsInst
import HandS.StrMore
import HandS.Style
import HandS.NoneIn
import HandS.Small
import HandS.Conv
import HandS.Deep
import HandS.DictEq
import HandS.DeepEq
import HandS.OwnEq
import HandS.DictComp
import HandS.Wide
import HandS.Lambda
import HandS.EndBits
import HandS.EndTab
import HandS.HeadEnd
import HandS.HeadHook1
import HandS.HeadHook2
import HandS.HeadHook3
import HandS.HeadHook4
import HandS.HeadWalk
import HandS.ExcInit
import HandS.ExcField
import KE.KExcSuper
import HandS.Head0
import HandS.Head1
import HandS.Head2
import HandS.Star
import PyProof.InstNe
import HandS.MakeKwOnly
import HandS.Walk
import HandS.Nested
import KE.DataMinKey
import HandS.SortKw
import HandS.TupSets
import HandS.SetBool
import HandS.SetTxt0
import KE.SortData
import PyProof.ReprRoads
import PyProof.CallFns
import HandS.TryMany
import HandS.ExcOwn
import PySem.Challenge.RW_surehollows_k46_whole_escapes_and_rims
/-! A0 -/
set_option Elab.async false
set_option linter.all false
set_option maxRecDepth 100000
set_option maxHeartbeats 4000000
/-! The text by places, and what the head tells of it. -/
namespace SH
open PySem PySem.Spec PyProof.Rows L2
def top (i : Nat) : Stmt := PySem.Challenge.pw_surehollows_k46_whole_escapes_and_rims.main.body.getD i (.Pass ⟨0, 0, 0, 0⟩)
abbrev s_InvalidHeight_init : Stmt := inClass (top 3) 0
abbrev s_InvalidBounds_init : Stmt := inClass (top 4) 0
abbrev s_InvalidPlaces_init : Stmt := inClass (top 5) 0
abbrev s_InvalidTie_init : Stmt := inClass (top 6) 0
abbrev s_InvalidHeights_init : Stmt := inClass (top 7) 0
abbrev s_UnknownPlace_init : Stmt := inClass (top 8) 0
abbrev s_TooLarge_init : Stmt := inClass (top 9) 0
abbrev s_OutOfBounds_init : Stmt := inClass (top 10) 0
abbrev s_Contradiction_init : Stmt := inClass (top 11) 0
abbrev s_NotBounds_init : Stmt := inClass (top 12) 0
abbrev s_NotChart_init : Stmt := inClass (top 13) 0
abbrev s_NotLand_init : Stmt := inClass (top 14) 0
abbrev s_is_height : Stmt := top 17
abbrev s_is_name : Stmt := top 18
abbrev s_Bounds_init : Stmt := inClass (top 19) 0
abbrev s_Bounds_exact : Stmt := inClass (top 19) 1
abbrev s_Bounds_from_text : Stmt := inClass (top 19) 2
abbrev s_Bounds_width : Stmt := inClass (top 19) 3
abbrev s_Bounds_holds : Stmt := inClass (top 19) 4
abbrev s_Bounds_contains : Stmt := inClass (top 19) 5
abbrev s_Bounds_eq : Stmt := inClass (top 19) 6
abbrev s_Bounds_and : Stmt := inClass (top 19) 7
abbrev s_Bounds_neg : Stmt := inClass (top 19) 8
abbrev s_Bounds_str : Stmt := inClass (top 19) 9
abbrev s_are_places : Stmt := top 22
abbrev s_is_key : Stmt := top 23
abbrev s_is_pair : Stmt := top 24
abbrev s_pairs_told : Stmt := top 25
abbrev s_places_told : Stmt := top 26
abbrev s_nearby : Stmt := top 27
abbrev s_Chart_init : Stmt := inClass (top 28) 0
abbrev s_Chart_names : Stmt := inClass (top 28) 1
abbrev s_Chart_ties : Stmt := inClass (top 28) 2
abbrev s_Chart_outlets : Stmt := inClass (top 28) 3
abbrev s_Chart_neighbours : Stmt := inClass (top 28) 4
abbrev s_Chart_parts : Stmt := inClass (top 28) 5
abbrev s_Chart_with_bounds : Stmt := inClass (top 28) 6
abbrev s_Chart_turned : Stmt := inClass (top 28) 7
abbrev s_Chart_narrower : Stmt := inClass (top 28) 8
abbrev s_Chart_getitem : Stmt := inClass (top 28) 9
abbrev s_Chart_iter : Stmt := inClass (top 28) 10
abbrev s_Chart_contains : Stmt := inClass (top 28) 11
abbrev s_Chart_len : Stmt := inClass (top 28) 12
abbrev s_Chart_eq : Stmt := inClass (top 28) 13
abbrev s_spread : Stmt := top 30
abbrev s_way_back : Stmt := top 31
abbrev s_least_level : Stmt := top 32
abbrev s_low_bounds : Stmt := top 33
abbrev s_high_bounds : Stmt := top 34
abbrev s_need_chart : Stmt := top 36
abbrev s_need_place : Stmt := top 37
abbrev s_need_height : Stmt := top 38
abbrev s_Land_init : Stmt := inClass (top 39) 0
abbrev s_Land_lowest : Stmt := inClass (top 39) 1
abbrev s_Land_highest : Stmt := inClass (top 39) 2
abbrev s_Land_clipped : Stmt := inClass (top 39) 3
abbrev s_Land_call : Stmt := inClass (top 39) 4
abbrev s_Land_eq : Stmt := inClass (top 39) 5
abbrev s_Land_heights : Stmt := inClass (top 39) 6
abbrev s_Land_pinned : Stmt := inClass (top 39) 7
abbrev s_need_land : Stmt := top 40
abbrev s_level_by : Stmt := top 42
abbrev s_water_level : Stmt := top 43
abbrev s_water : Stmt := top 44
abbrev s_total_water : Stmt := top 45
abbrev s_dry_land : Stmt := top 46
abbrev s_least_water : Stmt := top 47
abbrev s_wet_land : Stmt := top 48
abbrev s_greatest_water : Stmt := top 49
abbrev s_least_total : Stmt := top 50
abbrev s_surely_wet : Stmt := top 51
abbrev s_never_wet : Stmt := top 52
abbrev s_escape : Stmt := top 53
abbrev s_rim : Stmt := top 55
abbrev s_law_cell : Stmt := top 57
abbrev s_law_box : Stmt := top 58
abbrev s_law_take : Stmt := top 59
abbrev s_law_mixed : Stmt := top 60
abbrev s_law_names : Stmt := top 61
abbrev s_law_height : Stmt := top 62
abbrev s_law_model : Stmt := top 63
abbrev s_law_drained : Stmt := top 64
abbrev s_law_chart : Stmt := top 65
abbrev s_law_near : Stmt := top 66
abbrev s_law_flood : Stmt := top 67
abbrev s_law_is_way : Stmt := top 68
abbrev s_law_caught : Stmt := top 69
abbrev s_law_is : Stmt := top 70
abbrev s_law_escape_right : Stmt := top 71
abbrev s_law_escapes_right : Stmt := top 72
abbrev s_law_later_right : Stmt := top 73
abbrev s_law_refusals_right : Stmt := top 74
abbrev s_law : Stmt := top 75
/-! ### classes -/
abbrev cB (K : PySem.W.Frag) : Addr := He.ga K "Bounds"
abbrev cC (K : PySem.W.Frag) : Addr := He.ga K "Chart"
abbrev cL (K : PySem.W.Frag) : Addr := He.ga K "Land"
/-- what isinstance asks of an own class -/
structure OwnIs (K : PySem.W.Frag) (C : Addr) : Prop where
  ha : PySem.W.findIn K (.ref C) "__class__" = some (some (.builtin "object.__class__"))
  hn : PySem.W.specialIn K (.builtin "object.__class__") "__get__" = some (some (.builtin "getset_descriptor.__get__"))
  htk : PySem.W.takesIn K (.builtin "object.__class__") = some true
  hm : PySem.W.mroIn K C (.type "object") = some true
/-- a def of the module -/
def DefAt (K : PySem.W.Frag) (mg : Str → Option Value) (x : Str) (st : Stmt) (dvs : List V) : Prop :=
  ∃ f fd, FunD K x x (defArgs st) (defBody st) (defScope st) dvs [] f fd ∧ mg x = some (.ref f)
/-- a method of a class -/
def MetAt (K : PySem.W.Frag) (C : Addr) (m qual : Str) (st : Stmt) (dvs : List V) (kws : List (Str × V)) : Prop :=
  ∃ f fd, FunD K m qual (defArgs st) (defBody st) (defScope st) dvs kws f fd ∧ Meth K C m f
/-- the keyword-only default of Chart's __init__ -/
def kwAt (K : PySem.W.Frag) : Addr := match K.lookup (He.fAd K ("Chart", some "__init__")) with
  | some ⟨_, _, .func fd, _⟩ => (match fd.kwdefaults with
    | .ref D => (match PySem.W.nsIn K D "outlets" with
      | some (some (.ref a)) => a
      | _ => 0)
    | _ => 0)
  | _ => 0
structure T (K : PySem.W.Frag) (mg : Str → Option Value) : Prop where
  n_len : mg "len" = none
  n_isinstance : mg "isinstance" = none
  n_all : mg "all" = none
  n_sorted : mg "sorted" = none
  n_min : mg "min" = none
  n_max : mg "max" = none
  n_list : mg "list" = none
  n_dict : mg "dict" = none
  n_set : mg "set" = none
  n_sum : mg "sum" = none
  n_int : mg "int" = none
  n_str : mg "str" = none
  n_bool : mg "bool" = none
  n_tuple : mg "tuple" = none
  n_zip : mg "zip" = none
  n_enumerate : mg "enumerate" = none
  n_range : mg "range" = none
  n_repr : mg "repr" = none
  n_TypeError : mg "TypeError" = none
  mH : ∃ t, mg "MOST_HEIGHT" = some (.int 1000000000000 t)
  mP : ∃ t, mg "MOST_PLACES" = some (.int 60 t)
  clB : Cls K (cB K)
  gB : mg "Bounds" = some (.ref (cB K))
  oiB : OwnIs K (cB K)
  aB_low : NoAttr K (cB K) "low"
  aB_high : NoAttr K (cB K) "high"
  kB : PySem.W.keepIn K (.ref (cB K)) = true
  mkB : PySem.W.makesIn K (cB K) = true
  clC : Cls K (cC K)
  gC : mg "Chart" = some (.ref (cC K))
  oiC : OwnIs K (cC K)
  aC_held : NoAttr K (cC K) "held"
  aC_pairs : NoAttr K (cC K) "pairs"
  aC_drains : NoAttr K (cC K) "drains"
  aC_near : NoAttr K (cC K) "near"
  kC : PySem.W.keepIn K (.ref (cC K)) = true
  mkC : PySem.W.makesIn K (cC K) = true
  clL : Cls K (cL K)
  gL : mg "Land" = some (.ref (cL K))
  oiL : OwnIs K (cL K)
  aL_chart : NoAttr K (cL K) "chart"
  aL_by_name : NoAttr K (cL K) "by_name"
  kL : PySem.W.keepIn K (.ref (cL K)) = true
  mkL : PySem.W.makesIn K (cL K) = true
  d_is_height : DefAt K mg "is_height" s_is_height []
  d_is_name : DefAt K mg "is_name" s_is_name []
  d_Bounds_init : MetAt K (cB K) "__init__" "Bounds.__init__" s_Bounds_init [] []
  d_Bounds_contains : MetAt K (cB K) "__contains__" "Bounds.__contains__" s_Bounds_contains [] []
  d_Bounds_eq : MetAt K (cB K) "__eq__" "Bounds.__eq__" s_Bounds_eq [] []
  d_are_places : DefAt K mg "are_places" s_are_places []
  d_is_key : DefAt K mg "is_key" s_is_key []
  d_is_pair : DefAt K mg "is_pair" s_is_pair []
  d_pairs_told : DefAt K mg "pairs_told" s_pairs_told []
  d_places_told : DefAt K mg "places_told" s_places_told []
  d_nearby : DefAt K mg "nearby" s_nearby []
  d_Chart_init : MetAt K (cC K) "__init__" "Chart.__init__" s_Chart_init [.ref (He.dflAt ("Chart", some "__init__") 0 K)] [("outlets", .ref (kwAt K))]
  d_Chart_names : MetAt K (cC K) "names" "Chart.names" s_Chart_names [] []
  d_Chart_outlets : MetAt K (cC K) "outlets" "Chart.outlets" s_Chart_outlets [] []
  d_Chart_neighbours : MetAt K (cC K) "neighbours" "Chart.neighbours" s_Chart_neighbours [] []
  d_Chart_with_bounds : MetAt K (cC K) "with_bounds" "Chart.with_bounds" s_Chart_with_bounds [] []
  d_Chart_getitem : MetAt K (cC K) "__getitem__" "Chart.__getitem__" s_Chart_getitem [] []
  d_Chart_contains : MetAt K (cC K) "__contains__" "Chart.__contains__" s_Chart_contains [] []
  d_Chart_len : MetAt K (cC K) "__len__" "Chart.__len__" s_Chart_len [] []
  d_Chart_eq : MetAt K (cC K) "__eq__" "Chart.__eq__" s_Chart_eq [] []
  d_spread : DefAt K mg "spread" s_spread [.ref (He.dflAt ("spread", none) 0 K)]
  d_way_back : DefAt K mg "way_back" s_way_back []
  d_least_level : DefAt K mg "least_level" s_least_level []
  d_low_bounds : DefAt K mg "low_bounds" s_low_bounds []
  d_high_bounds : DefAt K mg "high_bounds" s_high_bounds []
  d_need_chart : DefAt K mg "need_chart" s_need_chart []
  d_need_place : DefAt K mg "need_place" s_need_place []
  d_need_height : DefAt K mg "need_height" s_need_height []
  d_Land_init : MetAt K (cL K) "__init__" "Land.__init__" s_Land_init [] []
  d_Land_call : MetAt K (cL K) "__call__" "Land.__call__" s_Land_call [] []
  d_Land_eq : MetAt K (cL K) "__eq__" "Land.__eq__" s_Land_eq [] []
  d_Land_heights : MetAt K (cL K) "heights" "Land.heights" s_Land_heights [] []
  d_need_land : DefAt K mg "need_land" s_need_land []
  d_level_by : DefAt K mg "level_by" s_level_by []
  d_water_level : DefAt K mg "water_level" s_water_level []
  d_water : DefAt K mg "water" s_water []
  d_total_water : DefAt K mg "total_water" s_total_water []
  d_dry_land : DefAt K mg "dry_land" s_dry_land []
  d_least_water : DefAt K mg "least_water" s_least_water []
  d_wet_land : DefAt K mg "wet_land" s_wet_land []
  d_greatest_water : DefAt K mg "greatest_water" s_greatest_water []
  d_least_total : DefAt K mg "least_total" s_least_total []
  d_surely_wet : DefAt K mg "surely_wet" s_surely_wet []
  d_never_wet : DefAt K mg "never_wet" s_never_wet []
  d_escape : DefAt K mg "escape" s_escape []
  d_rim : DefAt K mg "rim" s_rim []
  d_law_cell : DefAt K mg "_law_cell" s_law_cell []
  d_law_box : DefAt K mg "_law_box" s_law_box []
  d_law_take : DefAt K mg "_law_take" s_law_take []
  d_law_mixed : DefAt K mg "_law_mixed" s_law_mixed []
  d_law_names : DefAt K mg "_law_names" s_law_names []
  d_law_height : DefAt K mg "_law_height" s_law_height []
  d_law_model : DefAt K mg "_law_model" s_law_model []
  d_law_drained : DefAt K mg "_law_drained" s_law_drained []
  d_law_chart : DefAt K mg "_law_chart" s_law_chart []
  d_law_near : DefAt K mg "_law_near" s_law_near []
  d_law_flood : DefAt K mg "_law_flood" s_law_flood []
  d_law_is_way : DefAt K mg "_law_is_way" s_law_is_way []
  d_law_caught : DefAt K mg "_law_caught" s_law_caught []
  d_law_is : DefAt K mg "_law_is" s_law_is []
  d_law_escape_right : DefAt K mg "_law_escape_right" s_law_escape_right []
  d_law_escapes_right : DefAt K mg "_law_escapes_right" s_law_escapes_right []
  d_law_later_right : DefAt K mg "_law_later_right" s_law_later_right []
  d_law_refusals_right : DefAt K mg "_law_refusals_right" s_law_refusals_right []
  d_law : DefAt K mg "law" s_law []
  e0 : ∀ H, SqT K H (He.dflAt ("spread", none) 0 K) []
end SH
/-! HXd -/
set_option Elab.async false
set_option linter.all false
set_option maxRecDepth 100000
set_option maxHeartbeats 2000000
/-! What the head tells by Bools of one's own (the Bools). -/
namespace SH
open PySem PySem.Spec PyProof.Rows L2
open He (ba eqO eqO_ok)
abbrev PW : Program := PySem.Challenge.pw_surehollows_k46_whole_escapes_and_rims
def ownB (K : PySem.W.Frag) (C : Addr) : Bool := eqO (PySem.W.findIn K (.ref C) "__class__") (some (some (.builtin "object.__class__"))) && (eqO (PySem.W.specialIn K (.builtin "object.__class__") "__get__") (some (some (.builtin "getset_descriptor.__get__"))) && (decide (PySem.W.takesIn K (.builtin "object.__class__") = some true) && decide (PySem.W.mroIn K C (.type "object") = some true)))
def neKB (K : PySem.W.Frag) (C : Addr) : Bool := eqO (PySem.W.findIn K (.ref C) "__ne__") (some (some (.builtin "object.__ne__"))) && decide (PySem.W.mroIn K C (.type "object") = some true)
def emTB (K : PySem.W.Frag) (a : Addr) : Bool := match K.lookup a with
  | some ⟨.type c, _, .seq its _, _⟩ => decide (c = "tuple") && its.isEmpty
  | _ => false
def oexB (K : PySem.W.Frag) (C : Addr) : Bool := (match K.lookup C with
  | some ⟨.type "type", _, .cls cd, sl⟩ => (match cd.mro, sl.toList with
    | .ref C' :: bm, [_, _, _, _, some (.builtin n), _] => C' == C && n == "ValueError.__new__" && !cd.hasDel && cd.hasDict && PySem.HandSPX.refsVE bm
    | _, _ => false)
  | _ => false) && (eqO (PySem.W.findIn K (.ref C) "__setattr__") (some (some (.builtin "object.__setattr__"))) && (decide (PySem.W.subIn K (.ref C) (.type "BaseException") = some true) && (decide (PySem.W.typeIn K (.ref C) = some (.type "type")) && PySem.W.keepIn K (.ref C))))
abbrev FnZ : Type := Option (Str × Str × Arguments × FuncBody × Scope × Addr × List Str × Value × Value × Addr)
def iAd (K : PySem.W.Frag) (x : Str) : Addr := He.ma K (He.ga K x) "__init__"
def fnZ (K : PySem.W.Frag) (x : Str) : FnZ := match K.lookup (iAd K x) with
  | some ⟨_, _, .func fd, _⟩ => some (fd.name, fd.qualname, fd.params, fd.body, fd.scope, fd.globals, fd.closure.map (·.1), fd.defaults, fd.kwdefaults, fd.builtins)
  | _ => none
def valZ (qual : Str) (st : Stmt) : FnZ := some ("__init__", qual, defArgs st, .stmts (defBody st), defScope st, mainGlobals, ["__class__"], .none, .none, builtinsNs)
def iniB (K : PySem.W.Frag) (file : Str) (x qual : Str) : Bool := (match K.lookup (iAd K x) with
  | some ⟨_, _, .func fd, _⟩ => PySem.W.codeIn K fd.code qual && ((match fd.code with
    | .ref c => (match K.lookup c with
      | some ⟨_, _, .fields vs, _⟩ => (match (vs[2]? : Option Value) with
        | some (.str f _) => file == f
        | _ => false)
      | _ => false)
    | _ => false) && (match fd.closure with
    | [(_, cc)] => (match K.lookup cc with
      | some ⟨_, _, .cell (some (.ref C)), _⟩ => decide (C = He.ga K x)
      | _ => false)
    | _ => false))
  | _ => false) && (decide (PySem.W.mroIn K (He.ga K x) (.ref (He.ga K x)) = some true) && (eqO (PySem.W.ks_superIn K (He.ga K x) (He.ga K x) "__init__") (some (some (.builtin "ValueError.__init__"))) && (decide (PySem.W.subIn K (.ref (He.ga K x)) (.type "ValueError") = some true) && eqO (PySem.W.nsIn K cStatics "thirdparty.any") (some none))))
end SH
/-! HDd -/
set_option Elab.async false
set_option linter.all false
set_option maxRecDepth 100000
set_option maxHeartbeats 4000000
/-! What the head is asked. -/
namespace SH
open PySem PySem.Spec PyProof.Rows L2
open He (ba eqO eqO_ok)
abbrev cNC (K : PySem.W.Frag) : Addr := He.ga K "NotChart"
abbrev cUP (K : PySem.W.Frag) : Addr := He.ga K "UnknownPlace"
abbrev cSE (K : PySem.W.Frag) : Addr := He.ga K "SurveyError"
def hfa0 : List He.Fa := [.free "len", .free "isinstance", .free "all", .free "sorted", .free "min", .free "max", .free "list", .free "dict", .free "set", .free "sum", .free "int", .free "str", .free "bool", .free "tuple", .free "zip", .free "enumerate", .free "range", .free "repr", .free "TypeError", .int "MOST_HEIGHT" 1000000000000]
def hfa1 : List He.Fa := [.int "MOST_PLACES" 60, .cls "Bounds", .glo "Bounds", .noat "Bounds" "low", .noat "Bounds" "high", .keep "Bounds", .cls "Chart", .glo "Chart", .noat "Chart" "held", .noat "Chart" "pairs", .noat "Chart" "drains", .noat "Chart" "near", .keep "Chart", .cls "Land", .glo "Land", .noat "Land" "chart", .noat "Land" "by_name", .keep "Land", .glo "is_height", .glo "is_name"]
def hfa2 : List He.Fa := [.meth "Bounds" "__init__", .meth "Bounds" "__contains__", .meth "Bounds" "__eq__", .glo "are_places", .glo "is_key", .glo "is_pair", .glo "pairs_told", .glo "places_told", .glo "nearby", .meth "Chart" "__init__", .meth "Chart" "names", .meth "Chart" "outlets", .meth "Chart" "neighbours", .meth "Chart" "with_bounds", .meth "Chart" "__getitem__", .meth "Chart" "__contains__", .meth "Chart" "__len__", .meth "Chart" "__eq__", .glo "spread", .glo "way_back"]
def hfa3 : List He.Fa := [.glo "least_level", .glo "low_bounds", .glo "high_bounds", .glo "need_chart", .glo "need_place", .glo "need_height", .meth "Land" "__init__", .meth "Land" "__call__", .meth "Land" "__eq__", .meth "Land" "heights", .glo "need_land", .glo "level_by", .glo "water_level", .glo "water", .glo "total_water", .glo "dry_land", .glo "least_water", .glo "wet_land", .glo "greatest_water", .glo "least_total"]
def hfa4 : List He.Fa := [.glo "surely_wet", .glo "never_wet", .glo "escape", .glo "rim", .glo "_law_cell", .glo "_law_box", .glo "_law_take", .glo "_law_mixed", .glo "_law_names", .glo "_law_height", .glo "_law_model", .glo "_law_drained", .glo "_law_chart", .glo "_law_near", .glo "_law_flood", .glo "_law_is_way", .glo "_law_caught", .glo "_law_is", .glo "_law_escape_right", .glo "_law_escapes_right"]
def hfa5 : List He.Fa := [.glo "_law_later_right", .glo "_law_refusals_right", .glo "law", .free "super", .noat "NotChart" "value", .glo "NotChart", .meth "NotChart" "__init__", .noat "UnknownPlace" "name", .glo "UnknownPlace", .meth "UnknownPlace" "__init__", .glo "SurveyError", .exm "NotChart" "NotChart" true, .exm "UnknownPlace" "NotChart" false, .exm "UnknownPlace" "UnknownPlace" true]
def hfa : List He.Fa := hfa0 ++ hfa1 ++ hfa2 ++ hfa3 ++ hfa4 ++ hfa5
def hfn0 : List He.DefD := [⟨("is_height", none), "is_height", "is_height", defArgs s_is_height, defBody s_is_height, defScope s_is_height, [], []⟩, ⟨("is_name", none), "is_name", "is_name", defArgs s_is_name, defBody s_is_name, defScope s_is_name, [], []⟩, ⟨("Bounds", some "__init__"), "__init__", "Bounds.__init__", defArgs s_Bounds_init, defBody s_Bounds_init, defScope s_Bounds_init, [], []⟩, ⟨("Bounds", some "__contains__"), "__contains__", "Bounds.__contains__", defArgs s_Bounds_contains, defBody s_Bounds_contains, defScope s_Bounds_contains, [], []⟩, ⟨("Bounds", some "__eq__"), "__eq__", "Bounds.__eq__", defArgs s_Bounds_eq, defBody s_Bounds_eq, defScope s_Bounds_eq, [], []⟩, ⟨("are_places", none), "are_places", "are_places", defArgs s_are_places, defBody s_are_places, defScope s_are_places, [], []⟩, ⟨("is_key", none), "is_key", "is_key", defArgs s_is_key, defBody s_is_key, defScope s_is_key, [], []⟩, ⟨("is_pair", none), "is_pair", "is_pair", defArgs s_is_pair, defBody s_is_pair, defScope s_is_pair, [], []⟩, ⟨("pairs_told", none), "pairs_told", "pairs_told", defArgs s_pairs_told, defBody s_pairs_told, defScope s_pairs_told, [], []⟩, ⟨("places_told", none), "places_told", "places_told", defArgs s_places_told, defBody s_places_told, defScope s_places_told, [], []⟩, ⟨("nearby", none), "nearby", "nearby", defArgs s_nearby, defBody s_nearby, defScope s_nearby, [], []⟩, ⟨("Chart", some "__init__"), "__init__", "Chart.__init__", defArgs s_Chart_init, defBody s_Chart_init, defScope s_Chart_init, [.adr (He.dflAt ("Chart", some "__init__") 0)], [("outlets", .adr kwAt)]⟩, ⟨("Chart", some "names"), "names", "Chart.names", defArgs s_Chart_names, defBody s_Chart_names, defScope s_Chart_names, [], []⟩, ⟨("Chart", some "outlets"), "outlets", "Chart.outlets", defArgs s_Chart_outlets, defBody s_Chart_outlets, defScope s_Chart_outlets, [], []⟩, ⟨("Chart", some "neighbours"), "neighbours", "Chart.neighbours", defArgs s_Chart_neighbours, defBody s_Chart_neighbours, defScope s_Chart_neighbours, [], []⟩, ⟨("Chart", some "with_bounds"), "with_bounds", "Chart.with_bounds", defArgs s_Chart_with_bounds, defBody s_Chart_with_bounds, defScope s_Chart_with_bounds, [], []⟩, ⟨("Chart", some "__getitem__"), "__getitem__", "Chart.__getitem__", defArgs s_Chart_getitem, defBody s_Chart_getitem, defScope s_Chart_getitem, [], []⟩, ⟨("Chart", some "__contains__"), "__contains__", "Chart.__contains__", defArgs s_Chart_contains, defBody s_Chart_contains, defScope s_Chart_contains, [], []⟩, ⟨("Chart", some "__len__"), "__len__", "Chart.__len__", defArgs s_Chart_len, defBody s_Chart_len, defScope s_Chart_len, [], []⟩, ⟨("Chart", some "__eq__"), "__eq__", "Chart.__eq__", defArgs s_Chart_eq, defBody s_Chart_eq, defScope s_Chart_eq, [], []⟩]
def hfn1 : List He.DefD := [⟨("spread", none), "spread", "spread", defArgs s_spread, defBody s_spread, defScope s_spread, [.adr (He.dflAt ("spread", none) 0)], []⟩, ⟨("way_back", none), "way_back", "way_back", defArgs s_way_back, defBody s_way_back, defScope s_way_back, [], []⟩, ⟨("least_level", none), "least_level", "least_level", defArgs s_least_level, defBody s_least_level, defScope s_least_level, [], []⟩, ⟨("low_bounds", none), "low_bounds", "low_bounds", defArgs s_low_bounds, defBody s_low_bounds, defScope s_low_bounds, [], []⟩, ⟨("high_bounds", none), "high_bounds", "high_bounds", defArgs s_high_bounds, defBody s_high_bounds, defScope s_high_bounds, [], []⟩, ⟨("need_chart", none), "need_chart", "need_chart", defArgs s_need_chart, defBody s_need_chart, defScope s_need_chart, [], []⟩, ⟨("need_place", none), "need_place", "need_place", defArgs s_need_place, defBody s_need_place, defScope s_need_place, [], []⟩, ⟨("need_height", none), "need_height", "need_height", defArgs s_need_height, defBody s_need_height, defScope s_need_height, [], []⟩, ⟨("Land", some "__init__"), "__init__", "Land.__init__", defArgs s_Land_init, defBody s_Land_init, defScope s_Land_init, [], []⟩, ⟨("Land", some "__call__"), "__call__", "Land.__call__", defArgs s_Land_call, defBody s_Land_call, defScope s_Land_call, [], []⟩, ⟨("Land", some "__eq__"), "__eq__", "Land.__eq__", defArgs s_Land_eq, defBody s_Land_eq, defScope s_Land_eq, [], []⟩, ⟨("Land", some "heights"), "heights", "Land.heights", defArgs s_Land_heights, defBody s_Land_heights, defScope s_Land_heights, [], []⟩, ⟨("need_land", none), "need_land", "need_land", defArgs s_need_land, defBody s_need_land, defScope s_need_land, [], []⟩, ⟨("level_by", none), "level_by", "level_by", defArgs s_level_by, defBody s_level_by, defScope s_level_by, [], []⟩, ⟨("water_level", none), "water_level", "water_level", defArgs s_water_level, defBody s_water_level, defScope s_water_level, [], []⟩, ⟨("water", none), "water", "water", defArgs s_water, defBody s_water, defScope s_water, [], []⟩, ⟨("total_water", none), "total_water", "total_water", defArgs s_total_water, defBody s_total_water, defScope s_total_water, [], []⟩, ⟨("dry_land", none), "dry_land", "dry_land", defArgs s_dry_land, defBody s_dry_land, defScope s_dry_land, [], []⟩, ⟨("least_water", none), "least_water", "least_water", defArgs s_least_water, defBody s_least_water, defScope s_least_water, [], []⟩, ⟨("wet_land", none), "wet_land", "wet_land", defArgs s_wet_land, defBody s_wet_land, defScope s_wet_land, [], []⟩]
def hfn2 : List He.DefD := [⟨("greatest_water", none), "greatest_water", "greatest_water", defArgs s_greatest_water, defBody s_greatest_water, defScope s_greatest_water, [], []⟩, ⟨("least_total", none), "least_total", "least_total", defArgs s_least_total, defBody s_least_total, defScope s_least_total, [], []⟩, ⟨("surely_wet", none), "surely_wet", "surely_wet", defArgs s_surely_wet, defBody s_surely_wet, defScope s_surely_wet, [], []⟩, ⟨("never_wet", none), "never_wet", "never_wet", defArgs s_never_wet, defBody s_never_wet, defScope s_never_wet, [], []⟩, ⟨("escape", none), "escape", "escape", defArgs s_escape, defBody s_escape, defScope s_escape, [], []⟩, ⟨("rim", none), "rim", "rim", defArgs s_rim, defBody s_rim, defScope s_rim, [], []⟩, ⟨("_law_cell", none), "_law_cell", "_law_cell", defArgs s_law_cell, defBody s_law_cell, defScope s_law_cell, [], []⟩, ⟨("_law_box", none), "_law_box", "_law_box", defArgs s_law_box, defBody s_law_box, defScope s_law_box, [], []⟩, ⟨("_law_take", none), "_law_take", "_law_take", defArgs s_law_take, defBody s_law_take, defScope s_law_take, [], []⟩, ⟨("_law_mixed", none), "_law_mixed", "_law_mixed", defArgs s_law_mixed, defBody s_law_mixed, defScope s_law_mixed, [], []⟩, ⟨("_law_names", none), "_law_names", "_law_names", defArgs s_law_names, defBody s_law_names, defScope s_law_names, [], []⟩, ⟨("_law_height", none), "_law_height", "_law_height", defArgs s_law_height, defBody s_law_height, defScope s_law_height, [], []⟩, ⟨("_law_model", none), "_law_model", "_law_model", defArgs s_law_model, defBody s_law_model, defScope s_law_model, [], []⟩, ⟨("_law_drained", none), "_law_drained", "_law_drained", defArgs s_law_drained, defBody s_law_drained, defScope s_law_drained, [], []⟩, ⟨("_law_chart", none), "_law_chart", "_law_chart", defArgs s_law_chart, defBody s_law_chart, defScope s_law_chart, [], []⟩, ⟨("_law_near", none), "_law_near", "_law_near", defArgs s_law_near, defBody s_law_near, defScope s_law_near, [], []⟩, ⟨("_law_flood", none), "_law_flood", "_law_flood", defArgs s_law_flood, defBody s_law_flood, defScope s_law_flood, [], []⟩, ⟨("_law_is_way", none), "_law_is_way", "_law_is_way", defArgs s_law_is_way, defBody s_law_is_way, defScope s_law_is_way, [], []⟩, ⟨("_law_caught", none), "_law_caught", "_law_caught", defArgs s_law_caught, defBody s_law_caught, defScope s_law_caught, [], []⟩, ⟨("_law_is", none), "_law_is", "_law_is", defArgs s_law_is, defBody s_law_is, defScope s_law_is, [], []⟩]
def hfn3 : List He.DefD := [⟨("_law_escape_right", none), "_law_escape_right", "_law_escape_right", defArgs s_law_escape_right, defBody s_law_escape_right, defScope s_law_escape_right, [], []⟩, ⟨("_law_escapes_right", none), "_law_escapes_right", "_law_escapes_right", defArgs s_law_escapes_right, defBody s_law_escapes_right, defScope s_law_escapes_right, [], []⟩, ⟨("_law_later_right", none), "_law_later_right", "_law_later_right", defArgs s_law_later_right, defBody s_law_later_right, defScope s_law_later_right, [], []⟩, ⟨("_law_refusals_right", none), "_law_refusals_right", "_law_refusals_right", defArgs s_law_refusals_right, defBody s_law_refusals_right, defScope s_law_refusals_right, [], []⟩, ⟨("law", none), "law", "law", defArgs s_law, defBody s_law, defScope s_law, [], []⟩]
def hfn : List He.DefD := hfn0 ++ hfn1 ++ hfn2 ++ hfn3
def htf : List He.Defn := [("spread", none), ("_law_refusals_right", none)]
def exL0 (K : PySem.W.Frag) : List Bool := [ownB K (cB K), PySem.W.makesIn K (cB K), ownB K (cC K), PySem.W.makesIn K (cC K), ownB K (cL K), PySem.W.makesIn K (cL K), emTB K (He.dflAt ("spread", none) 0 K), PySem.W.fnIn K (He.ma K (cC K) "__getitem__"), PySem.W.fnIn K (He.ma K (cL K) "__call__"), neKB K (cL K), decide ((He.cT K ("spread", none)).2 ≠ (He.cT K ("_law_refusals_right", none)).2), oexB K (He.ga K "NotChart"), xfB K (He.ga K "NotChart"), iniB K PW.main.file "NotChart" "NotChart.__init__", oexB K (He.ga K "UnknownPlace"), xfB K (He.ga K "UnknownPlace"), iniB K PW.main.file "UnknownPlace" "UnknownPlace.__init__", decide (PySem.W.kitOne K (.type "NoneType") (.ref (cC K)) = some false), decide (PySem.W.kitOne K (.type "int") (.ref (cC K)) = some false), decide (PySem.W.kitOne K (.type "list") (.ref (cC K)) = some false)]
def exL1 (K : PySem.W.Frag) : List Bool := [decide (PySem.W.kitOne K (.type "dict") (.ref (cC K)) = some false), decide (PySem.W.kitOne K (.type "str") (.ref (cC K)) = some false), decide (PySem.W.kitOne K (.ref (cL K)) (.ref (cC K)) = some false), decide (PySem.W.kitOne K (.ref (cL K)) (.type "bool") = some false)]
def exL (K : PySem.W.Frag) : List Bool := exL0 K ++ exL1 K
def hex (K : PySem.W.Frag) : Bool := (exL K).all id
abbrev zs (K : PySem.W.Frag) : List FnZ := [fnZ K "NotChart", fnZ K "UnknownPlace"]
abbrev zv : List FnZ := [valZ "NotChart.__init__" s_NotChart_init, valZ "UnknownPlace.__init__" s_UnknownPlace_init]
abbrev AlY : Type := He.AlD × Bool × List FnZ
/-- the addresses that are looked at: all that the boot and the top made -/
def asY (_ : Addr → Option Obj) : List Addr := cStatics :: mainGlobals :: List.range 900
def emB (o : Option Obj) : Bool := match o with
  | some u => He.emptyTab u
  | none => false
def tabY (g : Addr → Option Obj) (K : PySem.W.Frag) : Bool := htf.all fun p => PySem.W.codeHdIn K (He.cT K p).1 (He.cT K p).2 && emB (g (He.cT K p).2)
def obsK (g : Addr → Option Obj) (K : PySem.W.Frag) : AlY := (He.obsD hfa hfn K, hex K && tabY g K, zs K)
def obsY (g : Addr → Option Obj) : AlY := obsK g (He.frT g (asY g))
def valY : AlY := (He.valD hfn, true, zv)
def obY (s : PySem.W.SharedT) : AlY := obsY (HandSHeadRun.getT s)
end SH
/-! HR0 -/
set_option Elab.async false
set_option linter.all false
set_option maxRecDepth 100000
set_option maxHeartbeats 0
/-! The top's run. -/
namespace SH
open PySem PySem.W PySem.Calls PyProof.Rows
noncomputable section
abbrev RWw : OpenRow := OpenLaw.row PySem.Challenge.rw_surehollows_k46_whole_escapes_and_rims
abbrev VWw : Program := view RWw.prog [75]
def loose : List PySem.Str := (["_wall", "SurveyError", "InvalidHeight", "InvalidBounds", "InvalidPlaces", "InvalidTie", "InvalidHeights", "UnknownPlace", "TooLarge", "OutOfBounds", "Contradiction", "NotBounds", "NotChart", "NotLand", "MOST_HEIGHT", "is_height", "is_name", "Bounds", "MOST_PLACES", "are_places", "is_key", "is_pair", "pairs_told", "places_told", "nearby", "Chart", "spread", "way_back"] : List PySem.Str) ++
  (["least_level", "low_bounds", "high_bounds", "need_chart", "need_place", "need_height", "Land", "need_land", "level_by", "water_level", "water", "total_water", "dry_land", "least_water", "wet_land", "greatest_water", "least_total", "surely_wet", "never_wet", "escape", "rim"] : List PySem.Str) ++
  (["_law_cell", "_law_box", "_law_take", "_law_mixed", "_law_names", "_law_height", "_law_model", "_law_drained", "_law_chart", "_law_near", "_law_flood", "_law_is_way", "_law_caught", "_law_is", "_law_escape_right", "_law_escapes_right", "_law_later_right", "_law_refusals_right"] : List PySem.Str)
/-- the state behind the top -/
abbrev endW (w : World) (os : OsState) : Option SharedT := HandSHeadRun.endF (HandSHeadRun.stepQ (HandSHeadRun.denQ HandSHeadRun.tabQ) RWw.prog w) 20000 RWw.prog w os
/-- what the facts are read off -/
abbrev Ky (s : SharedT) : PySem.W.Frag := He.frT (HandSHeadRun.getT s) (asY (HandSHeadRun.getT s))
end
end SH
/-! HR1 -/
set_option Elab.async false
set_option linter.all false
set_option maxRecDepth 100000
set_option maxHeartbeats 0
namespace SH
open PySem PySem.W PySem.Calls PyProof.Rows
noncomputable section
theorem run1 (w : World) (os : OsState) : (endW w os).map (fun s => (HandSHeadRun.looksF RWw.prog (boot_heap w.params) s.abs, HandSHeadRun.seenQ VWw loose (importedModules RWw.prog.main.body) (fun s => xlAt VWw [] s && recOk RWw.toRowW.records s) s.abs)) = some (true, openGood VWw loose) := by kernel_rfl
end
end SH
/-! HR2 -/
set_option Elab.async false
set_option linter.all false
set_option maxRecDepth 100000
set_option maxHeartbeats 0
namespace SH
open PySem PySem.W PySem.Calls PyProof.Rows
noncomputable section
theorem run2 (w : World) (os : OsState) : (endW w os).map (fun s => (hfa.all fun f => f.ok (Ky s), hex (Ky s) && tabY (HandSHeadRun.getT s) (Ky s), zs (Ky s), hfn.map fun d => He.fnW (Ky s) d.at_)) = some (true, true, zv, hfn.map He.DefD.val) := by kernel_rfl
end
end SH
/-! HR3 -/
set_option Elab.async false
set_option linter.all false
set_option maxRecDepth 100000
set_option maxHeartbeats 0
namespace SH
open PySem PySem.W PySem.Calls PyProof.Rows
noncomputable section
theorem run3 (w : World) (os : OsState) : (endW w os).map (fun s => hfn.all fun d => d.ok (Ky s)) = some true := by kernel_rfl
end
end SH
/-! A1 -/
set_option Elab.async false
set_option linter.all false
set_option maxRecDepth 100000
set_option maxHeartbeats 4000000
namespace SH
open PySem PySem.Spec PyProof.Rows L2
/-! ### defs, methods, classes that may be called -/
structure Cal (P : Program) (w : World) (K : PySem.W.Frag) (mg : Str → Option Value) (base : Heap) (k : Nat) (x : Str) (sp : Sp) (dvs : List V) : Prop where
  ex : ∃ (f : Addr) (fd : FuncData) (ps : List Str) (ds : List Value), FnOk P w K mg base CX0 k f fd ps sp ∧ mg x = some (.ref f) ∧ PySem.W.keepIn K (.ref f) = true ∧ Binds K fd ps ds ∧ Vals dvs ds
structure Met (P : Program) (w : World) (K : PySem.W.Frag) (mg : Str → Option Value) (base : Heap) (k : Nat) (C : Addr) (m : Str) (sp : Sp) : Prop where
  ex : ∃ (f : Addr) (fd : FuncData) (ps : List Str), Cls K C ∧ Meth K C m f ∧ FnOk P w K mg base CX0 k f fd ps sp ∧ Binds K fd ps []
section
variable {P : Program} {w : World} {K : PySem.W.Frag} {mg : Str → Option Value} {base : Heap}
/-- the body of a def, its reading -/
abbrev Body (P : Program) (w : World) (K : PySem.W.Frag) (mg : Str → Option Value) (base : Heap) (qual : Str) (st : Stmt) (N : List Str) (k : Nat) (sp : Sp) : Prop :=
  ∀ (f : Addr) (cdv : Value) (A : Around) (outer : List Env) (s : Shared) (H : Hp) (vs : List V) (Q : VK) (E : XK), Room k (A.deeper (envOfC qual (defScope st) s.heap.objs.size f cdv)) → sp vs H Q E →
      ∃ t, PSs (cxOf CX0 P w K mg base N qual (defScope st) f cdv A outer s H E).nox (defBody st) t ∧ t { nx := fun _ H' => Q .non H', rt := Q } (start N vs) H
theorem fn_body {x qual : Str} {st : Stmt} {dvs : List V} {kws : List (Str × V)} {f : Addr} {fd : FuncData} {N ps : List Str} {k : Nat} {sp : Sp} (F : FunD K x qual (defArgs st) (defBody st) (defScope st) dvs kws f fd) (S : FnScope N ps (defScope st))
    (len : ∀ vs H Q E, sp vs H Q E → vs.length = ps.length) (hb : Body P w K mg base qual st N k sp) : FnOk P w K mg base CX0 (k + 1) f fd ps sp :=
  F.ok S len fun cdv A outer s H vs Q E hr hsp => by
    obtain ⟨t, h, q⟩ := hb f cdv A outer s H vs Q E hr hsp
    exact ⟨t, h.nox, q⟩
theorem cal_of {x : Str} {st : Stmt} {N ps : List Str} {k : Nat} {sp : Sp} (D : DefAt K mg x st []) (S : FnScope N ps (defScope st))
    (bd : ∀ (kV doc pm : Value) (an : Option Addr) (cdv ct : Value) (us : List Value), us.length = ps.length → bindArgs (PySem.W.fnOf x x (defArgs st) (defBody st) (defScope st) .none kV doc pm an cdv ct) ⟨us, []⟩ = pure (ps.zip us))
    (len : ∀ vs H Q E, sp vs H Q E → vs.length = ps.length) (hb : Body P w K mg base x st N k sp) : Cal P w K mg base (k + 1) x sp [] := by
  obtain ⟨f, fd, F, hm⟩ := D
  exact ⟨f, fd, ps, [], fn_body F S len hb, hm, F.kp, F.bindsN bd, .nil⟩
theorem met_of {C : Addr} {m qual : Str} {st : Stmt} {N ps : List Str} {k : Nat} {sp : Sp} (c : Cls K C) (D : MetAt K C m qual st [] []) (S : FnScope N ps (defScope st))
    (bd : ∀ (kV doc pm : Value) (an : Option Addr) (cdv ct : Value) (us : List Value), us.length = ps.length → bindArgs (PySem.W.fnOf m qual (defArgs st) (defBody st) (defScope st) .none kV doc pm an cdv ct) ⟨us, []⟩ = pure (ps.zip us))
    (len : ∀ vs H Q E, sp vs H Q E → vs.length = ps.length) (hb : Body P w K mg base qual st N k sp) : Met P w K mg base (k + 1) C m sp := by
  obtain ⟨f, fd, F, M⟩ := D
  exact ⟨f, fd, ps, c, M, fn_body F S len hb, F.bindsN bd⟩
end
section
variable {X : Cx} {k j : Nat} {C : Addr} {x m : Str} {sp : Sp} {dvs : List V} {p pos apos : Pos} {e o : Expr} {es : List Expr} {ta : TE} {t : TA}
theorem pe_c (c : Cal X.prog X.w X.K X.mg X.base k x sp dvs) (hr : Room j X.A) (hk : k ≤ j) (ha : PA X (e :: es) t) (hg : Gl X x := by rfl)
    (hdb : (x == ("__debug__" : Str)) = false := by decide) (he : starEach (e :: es) X.env = (false, eval e X.env) :: starEach es X.env := by rfl) (hpl : (backTo pos (starEach es X.env)).any (·.1) = false := by rfl) :
    PE X (.Call (.Name x p) (e :: es) [] pos) (tCall sp dvs E0 t) := by
  obtain ⟨f, fd, ps, ds, F, hm, kp, b, d⟩ := c.ex
  exact pe_call F (hr.mono hk) hg hm kp b d pass0 ha hdb he hpl
theorem pe_mt {pl : Sem Bool} (c : Met X.prog X.w X.K X.mg X.base k C m sp) (hr : Room j X.A) (hk : k ≤ j) (he : PE X o ta) (ha : PA X (e :: es) t)
    (hst : starEach (e :: es) X.env = (false, eval e X.env) :: starEach es X.env := by rfl) (hpl : (backTo pos (starEach es X.env)).any (·.1) = false := by rfl)
    (ht : eval (.Call (.Attribute o m apos) (e :: es) [] pos) X.env = (do
      let ov ← eval o X.env
      standAt apos.atName
      let (f, first) ← holding [ov] (getMethod ov m pl)
      callWith pos f first (backTo pos (starEach (e :: es) X.env)) (backToKw pos (keywordEach [] X.env))) := by rfl) :
    PE X (.Call (.Attribute o m apos) (e :: es) [] pos) (tMeth C m sp [] E0 ta t) := by
  obtain ⟨f, fd, ps, hc, hm, F, b⟩ := c.ex
  exact pe_meth (pl := pl) he hc hm F (hr.mono hk) b .nil pass0 ha hst hpl ht
theorem pe_mt0 {pl : Sem Bool} (c : Met X.prog X.w X.K X.mg X.base k C m sp) (hr : Room j X.A) (hk : k ≤ j) (he : PE X o ta)
    (ht : eval (.Call (.Attribute o m apos) [] [] pos) X.env = (do
      let ov ← eval o X.env
      standAt apos.atName
      let (f, first) ← holding [ov] (getMethod ov m pl)
      callWith pos f first (backTo pos (starEach [] X.env)) (backToKw pos (keywordEach [] X.env))) := by rfl) :
    PE X (.Call (.Attribute o m apos) [] [] pos) (tMeth C m sp [] E0 ta tNil) := by
  obtain ⟨f, fd, ps, hc, hm, F, b⟩ := c.ex
  exact pe_meth0 (pl := pl) he hc hm F (hr.mono hk) b .nil pass0 ht
/-- x = e, x in slot i -/
theorem sv (i : Nat) {y : Str} {te : TE} {pos' : Pos} (hN : X.N.Nodup) (he : PE X e te) (hi : X.N[i]? = some y := by rfl) (hx : Loc X.env.scope y := by first | exact Or.inl rfl | exact Or.inr rfl) (hs : swapsWith e (some (.Name y pos')) pos.line X.env = pure false := by rfl)
    (hf : X.fn y = true ∨ X.env.scope.names.lookup y = some .local := by first | exact .inl rfl | exact .inr rfl | assumption) : PS X (.Assign [.Name y pos'] e pos) (tAsg te (gName i)) := ps_set hN hi hx he hs hf
/-- a target that is a name -/
theorem gv (i : Nat) {y : Str} (hN : X.N.Nodup) (hi : X.N[i]? = some y := by rfl) (hx : Loc X.env.scope y := by first | exact Or.inl rfl | exact Or.inr rfl) (hf : X.fn y = true ∨ X.env.scope.names.lookup y = some .local := by first | exact .inl rfl | exact .inr rfl | assumption) : PG X (.Name y pos) (gName i) := pg_name hN hi hx hf
/-- a built-in, a built-in class, called -/
theorem cb {id : String} {r : List V → Hp → VK → Prop} (hc : CallR X (.builtin id) r) (hm : X.mg x = none) (ha : PA X (e :: es) t) (hg : Gl X x := by rfl) (hv : bootBuiltins x = some (.builtin id) := by decide +kernel)
    (hn : x ≠ "__name__" := by decide) (hdb : (x == ("__debug__" : Str)) = false := by decide) (hst : starEach (e :: es) X.env = (false, eval e X.env) :: starEach es X.env := by rfl) (hpl : (backTo pos (starEach es X.env)).any (·.1) = false := by rfl) :
    PE X (.Call (.Name x p) (e :: es) [] pos) (tCB r t) := pe_callB hc hg hm hv ha (hn := hn) (hdb := hdb) (he := hst) (hpl := hpl)
theorem ct {id : String} {r : List V → Hp → VK → Prop} (hc : CallR X (.type id) r) (hm : X.mg x = none) (ha : PA X (e :: es) t) (hg : Gl X x := by rfl) (hv : bootBuiltins x = some (.type id) := by decide +kernel)
    (hn : x ≠ "__name__" := by decide) (hdb : (x == ("__debug__" : Str)) = false := by decide) (hst : starEach (e :: es) X.env = (false, eval e X.env) :: starEach es X.env := by rfl) (hpl : (backTo pos (starEach es X.env)).any (·.1) = false := by rfl) :
    PE X (.Call (.Name x p) (e :: es) [] pos) (tCB r t) := pe_callTy hc hg hm hv ha (hn := hn) (hdb := hdb) (he := hst) (hpl := hpl)
/-- a built-in class's name as a value -/
theorem tyn {n : String} (hm : X.mg x = none) (hv : bootBuiltins x = some (.type n) := by decide +kernel) (hg : Gl X x := by rfl) (hn : x ≠ "__name__" := by decide) (hd : (x == ("__debug__" : Str)) = false := by decide) : PE X (.Name x pos) (tC (.ty n)) := pe_bltn hg hm hv rfl hn hd
theorem gcl {a : Addr} (hm : X.mg x = some (.ref a)) (hg : Gl X x := by rfl) (hd : (x == ("__debug__" : Str)) = false := by decide) : PE X (.Name x pos) (tC (.ref a)) := pe_glob hg hm rfl hd
theorem gin {i : Int} (hm : ∃ t, X.mg x = some (.int i t)) (hg : Gl X x := by rfl) (hd : (x == ("__debug__" : Str)) = false := by decide) : PE X (.Name x pos) (tC (.int i)) := by
  obtain ⟨t, h⟩ := hm
  exact pe_glob hg h ⟨t, rfl⟩ hd
end
/-! ### isinstance -/
theorem is_int {K : PySem.W.Frag} {H : Hp} {i : Int} {Q : VK} {c : String} {b : Bool} (hk : kitB "int" c = some b) (q : Q (.bl b) H) : rIsi K [.int i, .ty c] H Q := ⟨_, _, _, _, b, rfl, .ty _, .base (.int _), kit_ty hk, q⟩
theorem is_str {K : PySem.W.Frag} {H : Hp} {z : Str} {Q : VK} {c : String} {b : Bool} (hk : kitB "str" c = some b) (q : Q (.bl b) H) : rIsi K [.str z, .ty c] H Q := ⟨_, _, _, _, b, rfl, .ty _, .base (.str _), kit_ty hk, q⟩
/-! ### texts of the pairs of attributes -/
end SH
/-! R6 -/
set_option Elab.async false
set_option linter.all false
set_option maxRecDepth 100000
set_option maxHeartbeats 4000000
/-! an own class's __contains__, __getitem__, __len__, and != by its own __eq__. -/
namespace SH
open PySem PySem.Spec PyProof.Rows L2
open PySem.W (findIn isFn)
section
variable {X : Cx} {pins : List (Addr × Obj)} {σ : L2.St} {H : Hp} {s : Shared} {C : Addr} {k j : Nat} {sp : Sp} {m : Str}
/-- a method of the instance at a, run from below the running body -/
theorem run_met {A : Around} {f : Addr} {fd : FuncData} {ps : List Str} {us : List Value} {vs : List V} {Q : VK} (F : FnOk X.prog X.w X.K X.mg X.base CX0 k f fd ps sp) (hr : Room k A) (hfr : A.frames = X.A.frames) (hb : Binds X.K fd ps [])
    (I : Inv X pins σ H s) (r : Vals vs us) (h : sp vs H Q E0) : wpAny (model X.prog X.w) A (call (.ref f) us) (EP X pins σ Q) X.xe s := by
  have hl : us.length = ps.length := by rw [← r.length]; exact F.len _ _ _ _ h
  have e0 : Env0 X.prog X.w X.K X.mg X.base A X.stack s H := by
    have e := I.env0
    exact ⟨by rw [hfr]; exact e.frames, e.mod, e.bs, e.bsz, e.funs, e.frf, e.hok, e.bare⟩
  have hb' := hb s us I.kIn (by rw [List.append_nil]; exact hl)
  rw [List.append_nil] at hb'
  refine wpAny_call (codeAny_mono (F.run A X.stack s H ⟨us, []⟩ us vs Q E0 hr e0 hb' r h) fun r s' hq => ?_)
  cases r with
  | error e => exact (show False from hq).elim
  | ok fl =>
    cases fl with
    | ret u => exact I.after hq
    | next => exact False.elim hq
    | brk => exact False.elim hq
    | cont => exact False.elim hq
/-- what an own method makes of an instance and a value -/
def rOwn (C : Addr) (sp : Sp) : V → V → Hp → VK → Prop := fun o x H Q => ∃ a dx fs, o = .ref a ∧ H a = some (.ins C dx fs) ∧ sp [o, x] H Q E0
def rOwnB (C : Addr) (sp : Sp) (neg : Bool) : R2 := fun x o H Q => rOwn C sp o x H fun v H' => ∃ b, v = .bl b ∧ Q (.bl (if neg then !b else b)) H'
theorem inst_look {a dx : Addr} {fs : List (Str × V)} (I : Inv X pins σ H s) (ha : H a = some (.ins C dx fs)) : ∃ od, PySem.W.InstAt s.heap a (PySem.W.instObj C dx) C (some od) := by
  obtain ⟨mA, J, _⟩ := ins_get I.hok ha
  obtain ⟨od, J, _⟩ := J.look
  exact ⟨od, J⟩
theorem op_inC (c : Met X.prog X.w X.K X.mg X.base k C "__contains__" sp) (hr : Room k X.A) : OpR X (compareOp .In) (rOwnB C sp false) := by
  intro pins s σ H x y v u Q I rx ry hq
  obtain ⟨a, dx, fs, rfl, ha, q⟩ := hq
  cases ry
  obtain ⟨f, fd, ps, hc, hm, F, b⟩ := c.ex
  obtain ⟨od, J⟩ := inst_look I ha
  obtain ⟨m, hF⟩ := I.fr
  refine PySem.W.in_K hF I.ok.mod.kin J hm.at_ hm.fn (thn (run_met (vs := [.ref a, x]) F hr rfl b I (.cons rfl (.cons rx .nil)) q) fun w s' hw => ?_)
  obtain ⟨z, H', I', rz, bb, rfl, q'⟩ := hw
  obtain rfl : w = Value.bool bb := rz
  exact wpAny_truthy_bool ⟨.bl bb, H', I', rfl, q'⟩
theorem op_notInC (c : Met X.prog X.w X.K X.mg X.base k C "__contains__" sp) (hr : Room k X.A) : OpR X (compareOp .NotIn) (rOwnB C sp true) := by
  intro pins s σ H x y v u Q I rx ry hq
  obtain ⟨a, dx, fs, rfl, ha, q⟩ := hq
  cases ry
  obtain ⟨f, fd, ps, hc, hm, F, b⟩ := c.ex
  obtain ⟨od, J⟩ := inst_look I ha
  obtain ⟨m, hF⟩ := I.fr
  refine PySem.W.notIn_K hF I.ok.mod.kin J hm.at_ hm.fn (thn (run_met (vs := [.ref a, x]) F hr rfl b I (.cons rfl (.cons rx .nil)) q) fun w s' hw => ?_)
  obtain ⟨z, H', I', rz, bb, rfl, q'⟩ := hw
  obtain rfl : w = Value.bool bb := rz
  exact wpAny_truthy_bool ⟨.bl (!bb), H', I', rfl, q'⟩
/-- o[i] by the own __getitem__ -/
theorem pe_getC {a b : Expr} {ta tb : TE} {pos : Pos} (c : Met X.prog X.w X.K X.mg X.base k C "__getitem__" sp) (hfi : ∀ f, Meth X.K C "__getitem__" f → PySem.W.fnIn X.K f = true) (hr : Room (k + 1) X.A) (ha : PE X a ta) (hb : PE X b tb)
    (hsl : ∀ o i, subscripted b true o i = runValue (.builtin "lifetime.subscript" ⟨[o, i], []⟩) := by intro o i; with_unfolding_all rfl) : PE X (.Subscript a b pos) (tOp (rOwn C sp) ta tb) := by
  refine ⟨fun pins s σ H Q I h => ?_⟩
  refine Subscript_ (bin ha hb I h fun v u s2 x y H2 I2 rx ry q => ?_)
  obtain ⟨p, dx, fs, rfl, hp, q⟩ := q
  cases rx
  obtain ⟨f, fd, ps, hc, hm, F, bd⟩ := c.ex
  obtain ⟨od, J⟩ := inst_look I2 hp
  obtain ⟨m, hF⟩ := I2.fr
  exact PySem.W.sub_K hF I2.ok.mod.kin J hm.at_ (hfi f hm) hm.fn (run_met (vs := [.ref p, y]) F hr.in1 rfl bd I2 (.cons rfl (.cons ry .nil)) q) (hsl _ _)
/-- len(o) by the own __len__ -/
def rLenC (C : Addr) (sp : Sp) : List V → Hp → VK → Prop := fun vs H Q => ∃ a dx fs, vs = [.ref a] ∧ H a = some (.ins C dx fs) ∧ sp [.ref a] H (fun v H' => ∃ n : Nat, v = .int n ∧ n < 2 ^ 62 ∧ Q v H') E0
theorem call_lenC (c : Met X.prog X.w X.K X.mg X.base k C "__len__" sp) (hr : Room (k + 1) X.A) : CallR X (.builtin "len") (rLenC C sp) := by
  intro pins s σ H xs us Q I r hq
  obtain ⟨a, dx, fs, rfl, ha, q⟩ := hq
  obtain rfl := Vals.ref1 r
  obtain ⟨f, fd, ps, hc, hm, F, bd⟩ := c.ex
  obtain ⟨od, J⟩ := inst_look I ha
  obtain ⟨m, hF⟩ := I.fr
  refine PySem.W.len_K hF I.ok.mod.kin J hm.at_ hm.fn (thn (run_met (vs := [.ref a]) F hr.in1 rfl bd I (.cons rfl .nil) q) fun w s' hw => ?_)
  obtain ⟨z, H', I', rz, n, rfl, hn, q'⟩ := hw
  obtain ⟨t, rfl⟩ := rz
  exact ⟨⟨by omega, by omega⟩, ⟨.int n, H', I'.tok _, ⟨_, rfl⟩, q'⟩⟩
end
/-- x != y by the own __eq__ -/
structure NeK (K : PySem.W.Frag) (C : Addr) : Prop where
  ne : findIn K (.ref C) "__ne__" = some (some (.builtin "object.__ne__"))
  ob : PySem.W.mroIn K C (.type "object") = some true
section
variable {prog : Program} {w : World} {A : Around} {E : Value → Shared → Prop} {s : Shared} {K : PySem.W.Frag} {C x y f : Addr} {ox : Obj} {od : Option Obj}
theorem objNe_K (X : K.In s.heap) (I : PySem.W.InstAt s.heap x ox C od) (hs : findIn K (.ref C) "__eq__" = some (some (.ref f))) (hf : isFn K (.ref f) = true) (hu : A.units < cLine) {Q : Fin → Shared → Prop}
    (hcall : wpAny (model prog w) A (call (.ref f) [.ref x, .ref y]) (fun v s' => ∃ b, v = .bool b ∧ Q (.done (.ret (.bool (!b)))) s') E s) :
    wpAny (model prog w) A (Builtin.«object.__ne__» ⟨[.ref x, .ref y], []⟩) Q E s := by
  obtain ⟨h, g, d, t, os⟩ := s
  unfold Builtin.«object.__ne__»
  repeat (first
    | with_reducible refine wpAny_cRoomFor hu ?_
    | (refine wpAny_bind (m := callSpecialIfBound? (.ref x) (Str.ofString "__eq__") [.ref y])
        (PySem.W.ifBound_K X I hs hf (wpAny_mono hcall (fun r s' hr => by
          obtain ⟨b, rfl, hq⟩ := hr
          repeat (first | exact hq | exact wpAny_pure hq | exact wpAny_truthy_bool hq | (refine wpAny_bind (m := truthy (.bool _)) (wpAny_truthy_bool ?_)) | wp_step)) fun _ _ e => e)))
    | wp_step)
theorem special_neK (X : K.In s.heap) (I : PySem.W.InstAt s.heap x ox C od) (N : NeK K C) (hs : findIn K (.ref C) "__eq__" = some (some (.ref f))) (hf : isFn K (.ref f) = true) (hu : A.units + 1 < cLine) {Q : Option Value → Shared → Prop}
    (hcall : wpAny (model prog w) A.in1 (call (.ref f) [.ref x, .ref y]) (fun v s' => ∃ b, v = .bool b ∧ Q (some (.bool (!b))) s') E s) :
    wpAny (model prog w) A (callSpecialIfBound? (.ref x) "__ne__" [.ref y]) Q E s := by
  simp only [callSpecialIfBound?, bindSpecialIfBound?]
  refine wpAny_holding (wpAny_bind (wpAny_bind (wpAny_bind (I.type.here ((PySem.W.looks_findIn X N.ne).here ?_)))))
  simp only [F.cmp_object.ne.bind]
  refine wpAny_bind (wpAny_askSetting (wpAny_ite ?_))
  have one : wpAny (model prog w) A (call (.builtin "object.__ne__") [.ref x, .ref y]) (fun v s' => Q (some v) s') E s := by
    refine wpAny_call (codeAny_call_builtin F.cmp_object.ne.plain F.cmpEntry_ne (PySem.W.check_slot F.cmpKind_ne F.cmpSplit_ne (I.type.andThen (PySem.W.looks_mroIn X N.ob)) (F.cmpArgs_ne _ _)
      (objNe_K (A := A.in1) X I hs hf hu (wpAny_mono hcall (fun v s' hv => ?_) fun _ _ e => e))))
    obtain ⟨b, rfl, hq⟩ := hv
    exact ⟨b, rfl, hq⟩
  have fin : wpAny (model prog w) A (call (.builtin "object.__ne__") ([.ref x] ++ [.ref y]) >>= fun v => pure (some v)) Q E s :=
    wpAny_bind (wpAny_mono one (fun v s' h' => wpAny_pure h') fun _ _ h' => h')
  split
  · exact wpAny_bind (wpAny_pure (wpAny_pure fin))
  · exact wpAny_tryCatch (wpAny_bind (wpAny_pure (wpAny_pure fin)))
end
section
variable {X : Cx} {pins : List (Addr × Obj)} {σ : L2.St} {H : Hp} {s : Shared} {C : Addr} {k j : Nat} {sp : Sp} {m : Str}
def rNeC (C : Addr) (sp : Sp) : R2 := fun x y H Q => ∃ a b dx dy fs gs, x = .ref a ∧ y = .ref b ∧ H a = some (.ins C dx fs) ∧ H b = some (.ins C dy gs) ∧ sp [x, y] H (fun v H' => ∃ c, v = .bl c ∧ Q (.bl (!c)) H') E0
theorem op_neC (c : Met X.prog X.w X.K X.mg X.base k C "__eq__" sp) (N : NeK X.K C) (hr : Room (k + 2) X.A) : OpR X (compareOp .NotEq) (rNeC C sp) := by
  intro pins s σ H x y v u Q I rx ry hq
  obtain ⟨a, b, dx, dy, fs, gs, rfl, rfl, ha, hb, q⟩ := hq
  cases rx
  cases ry
  obtain ⟨f, fd, ps, hc, hm, F, bd⟩ := c.ex
  obtain ⟨od, J⟩ := inst_look I ha
  obtain ⟨od', J'⟩ := inst_look I hb
  have KX := I.kIn
  have hu : X.A.units + 1 < cLine := by have := hr.units; omega
  show wpAny (model X.prog X.w) X.A (richCompare .NotEq (.ref a) (.ref b)) (EP X pins σ Q) X.xe s
  unfold richCompare
  simp only [oneThing_ref]
  refine wpAny_holding ?_
  refine wpAny_bind (wpAny_cRoomFor (Nat.lt_of_succ_lt hu) ?_)
  rw [cmpInfo_NotEq]
  dsimp only
  refine wpAny_bind (J.type.here (wpAny_bind (J'.type.here ?_)))
  rw [show (Value.ref C != Value.ref C) = false from by simp]
  simp only [Bool.false_eq_true, if_false]
  refine wpAny_bind (wpAny_pure ?_)
  simp only [Bool.false_eq_true, if_false]
  refine wpAny_bind (m := tryCompare (.ref a) "__ne__" (.ref b)) ?_
  simp only [tryCompare]
  refine wpAny_bind (special_neK KX J N hm.at_ hm.fn hu ?_)
  refine thn (run_met (vs := [.ref a, .ref b]) F (hr.in1.mono (Nat.le_succ _)) rfl bd I (.cons rfl (.cons rfl .nil)) q) fun w s' hw => ?_
  obtain ⟨z, H', I', rz, c, rfl, q'⟩ := hw
  obtain rfl : w = Value.bool c := rz
  exact ⟨c, rfl, wpAny_pure (wpAny_pure ⟨.bl (!c), H', I', rfl, q'⟩)⟩
end
end SH
/-! R16 -/
set_option Elab.async false
set_option linter.all false
set_option maxRecDepth 100000
set_option maxHeartbeats 4000000
/-! o(e, ..): an instance is called. -/
namespace SH
open PySem PySem.Spec PyProof.Rows L2
section
variable {X : Cx} {k : Nat} {C : Addr} {sp : Sp} {fe e : Expr} {es : List Expr} {pos : Pos} {tf : TE} {t : TA}
def tCallI (C : Addr) (sp : Sp) (tf : TE) (t : TA) : TE := fun σ H Q => tf σ H fun y H1 => ∃ a, y = V.ref a ∧ t σ H1 fun vs H2 => ∃ dx fs, H2 a = some (.ins C dx fs) ∧ sp (V.ref a :: vs) H2 Q E0
theorem pe_callI (c : Met X.prog X.w X.K X.mg X.base k C "__call__" sp) (hfi : ∀ f, Meth X.K C "__call__" f → PySem.W.fnIn X.K f = true) (hr : Room k X.A) (hf : PE X fe tf) (ha : PA X (e :: es) t)
    (ht : eval (.Call fe (e :: es) [] pos) X.env = (do callWith pos (← eval fe X.env) [] (backTo pos (starEach (e :: es) X.env)) (backToKw pos (keywordEach [] X.env))) := by rfl)
    (he : starEach (e :: es) X.env = (false, eval e X.env) :: starEach es X.env := by rfl) (hpl : (backTo pos (starEach es X.env)).any (·.1) = false := by rfl) : PE X (.Call fe (e :: es) [] pos) (tCallI C sp tf t) := by
  refine ⟨fun pins s σ H Q I h => ?_⟩
  refine Call_ (thn (hf.run pins s σ H _ I h) fun u s1 ⟨y, H1, I1, ry, a, ey, q⟩ => ?_) ht
  subst ey
  obtain rfl : u = Value.ref a := ry
  refine StX.callO_with (thn (ha.run pos pins s1 σ H1 _ I1 q) fun us s2 ⟨vs, H2, I2, r, dx, fs, hi, q2⟩ => ?_) he hpl
  obtain ⟨f, fd, ps, hc, hm, F, bd⟩ := c.ex
  obtain ⟨od, J⟩ := inst_look I2 hi
  refine ⟨⟨C, _, _, J, rfl⟩, ?_⟩
  have r2 : Vals (V.ref a :: vs) (Value.ref a :: us) := .cons rfl r
  have hl : (Value.ref a :: us ++ []).length = ps.length := by
    rw [List.append_nil, ← r2.length]; exact F.len _ _ _ _ q2
  refine wpAny_call (PySem.W.kco_code I2.kIn J rfl hm.at_ hm.fn (hfi f hm) (codeAny_mono (F.run X.A X.stack s2 H2 ⟨Value.ref a :: us, []⟩ (Value.ref a :: us) (V.ref a :: vs) _ E0 hr I2.env0 (by have := bd s2 (Value.ref a :: us) I2.kIn hl; rw [List.append_nil] at this; exact this) r2 q2) fun r s' hq => ?_))
  cases r with
  | error e => exact hq.elim
  | ok fl =>
    cases fl with
    | ret u => exact I2.after hq
    | next => exact False.elim hq
    | brk => exact False.elim hq
    | cont => exact False.elim hq
end
end SH
/-! R1 -/
set_option Elab.async false
set_option linter.all false
set_option maxRecDepth 100000
set_option maxHeartbeats 4000000
/-! a lambda with parameters: made, tracked, called. -/
namespace SH
open PySem PySem.Spec PyProof.Rows L2 LamX NdefX
/-- a lambda: its words, the cells that it captured, its code object -/
structure LF where
  qual : Str
  params : Arguments
  body : Expr
  scope : Scope
  cl : List (Str × Addr)
  c : Addr
/-- its names as those of a nested def -/
abbrev LF.nf (F : LF) : NF := ⟨"<lambda>", F.qual, F.params, [], F.scope, F.cl, F.c⟩
def LamO (f : Addr) (F : LF) : HO := .ext fun h => ∃ (pm ctv : Value), h.get? f = some (PySem.W.kla_obj "<lambda>" F.qual F.params F.body F.scope F.cl pm F.c ctv)
theorem lamO_ne {f : Addr} {F : LF} (ps : Array Value) : LamO f F ≠ .tbl ps := fun z => by
  unfold LamO at z
  cases z
theorem lamO_at {P : Program} {w : World} {H : Hp} {h : Heap} {f : Addr} {F : LF} (hok : HOk P w H h) (e : H f = some (LamO f F)) : ∃ (pm ctv : Value), h.get? f = some (PySem.W.kla_obj "<lambda>" F.qual F.params F.body F.scope F.cl pm F.c ctv) := by
  obtain ⟨z, _, _⟩ := hok f _ e
  exact z
section
variable {X : Cx} {pins : List (Addr × Obj)} {σ : L2.St} {H : Hp} {s : Shared}
theorem inv_lam {F : LF} {o : Obj} {t' : Nat} {pm ctv : Value} (I : Inv X pins σ H s) (ho : o = PySem.W.kla_obj "<lambda>" F.qual F.params F.body F.scope F.cl pm F.c ctv) :
    Inv X pins σ (upd H s.heap.objs.size (LamO s.heap.objs.size F)) { s with heap := s.heap.push o, toks := t' } := by
  subst ho
  refine I.laid (a := s.heap.objs.size) (fun b u e => Heap.get?_push_of_some _ e) (Nat.le_refl _) ?_
  have e : (s.heap.push (PySem.W.kla_obj "<lambda>" F.qual F.params F.body F.scope F.cl pm F.c ctv)).get? s.heap.objs.size = some (PySem.W.kla_obj "<lambda>" F.qual F.params F.body F.scope F.cl pm F.c ctv) := Heap.get?_push_size _ rfl
  exact ⟨⟨pm, ctv, e⟩, ⟨_, e⟩, fun h1 h2 ⟨p, t, z⟩ st => ⟨p, t, st _ z⟩⟩
/-- the lambda is made: its code object is new, or found in the table -/
theorem lam_make3 {TT : List (Addr × Str)} {c P : Addr} {params : Arguments} {body : Expr} {scope : Scope} {pos : Pos} {E : Value → Shared → Prop} {Q : Value → Shared → Prop} (I : Inv X pins σ H s) (TB : TabB X.base X.mg c P) (hcode : X.env.code = .ref c)
    (hm : (P, X.env.qual ++ "<lambda>") ∈ TT) (hu : ∀ p ∈ TT, p.1 = P → p.2 = X.env.qual ++ "<lambda>") (hT : Tabs TT H) (hdef : defaultsOf params X.env = ([], [])) (hfree : ∀ y ∈ scope.names, y.2 = .free → ∃ c, X.env.cells.lookup y.1 = some c)
    (h : ∀ (f c' : Addr) (H1 : Hp) (s' : Shared), Inv X pins σ H1 s' → ExtN H H1 → Tabs TT H1 → H f = none → H1 f = some (LamO f ⟨X.env.qual ++ "<lambda>", params, body, scope, cloFrom X.env.cells scope.names [], c'⟩) →
      H1 c' = some (CodeO c' (X.env.qual ++ "<lambda>")) → Q (.ref f) s') :
    wpAny (model X.prog X.w) X.A (eval (.Lambda params body scope pos) X.env) Q E s := by
  obtain ⟨ps, hP, ht, ha⟩ := hT _ hm
  refine PySem.W.kla_eval hdef ?_
  have bP : s.heap.BuiltinsAt X.mg P := TB.bm.keeps I.bk
  have hP' : s.heap.get? P = some { cls := .none, data := .fields ps } := I.hok P _ hP
  cases hc : codeAmong pos ps.toList with
  | none =>
    refine PySem.W.kla_makeFunction (mg := X.mg) (c := c) (P := P) (ps := ps) (closure_ok hfree) I.ok.glob (I.mod.glob.keeps I.bk) hcode (TB.code.keeps I.bk) hP' ht hc TB.gP bP fun c' ctv h' tk hx hge hlt hrec htb => ?_
    obtain ⟨c2, oc, vs, t, e2, hoc, hd, hv⟩ := hrec
    cases e2
    have nC : H c' = none := I.hok.fresh hge
    have I1 := inv_table (t' := tk) (more := #[rawInt pos.line, rawInt pos.col, .ref c']) (h' := h') I hP (fun b o hb e => hx b o hb e) htb hge ⟨oc, vs, t, hoc, hd, hv⟩
    have hE : ExtN H (upd (upd H P (.tbl (ps ++ #[rawInt pos.line, rawInt pos.col, .ref c']))) c' (CodeO c' (X.env.qual ++ "<lambda>"))) := fun b o e n => by
      rw [upd_ne (ne_of_none e nC), upd_ne (fun z => n ps (Option.some.inj (e.symm.trans (by rw [z]; exact hP))))]
      exact e
    have eL : (ps ++ #[rawInt pos.line, rawInt pos.col, .ref c']).toList = ps.toList ++ [rawInt pos.line, rawInt pos.col, .ref c'] := by simp
    have T1 : Tabs TT (upd (upd H P (.tbl (ps ++ #[rawInt pos.line, rawInt pos.col, .ref c']))) c' (CodeO c' (X.env.qual ++ "<lambda>"))) := fun p hp => by
      by_cases hb : p.1 = P
      · rw [hu p hp hb, hb]
        refine ⟨_, by rw [upd_ne (ne_of_none hP nC), upd_same], by rw [eL]; exact PySem.TriplesOk_snoc _ _ _ _ ht, fun p' cv hcv => ?_⟩
        rw [eL] at hcv
        rcases among_app _ ht hcv with z | z
        · obtain ⟨c0, e1, e2⟩ := ha p' cv z
          exact ⟨c0, e1, hE _ _ e2 codeO_ne⟩
        · exact ⟨c', z, upd_same⟩
      · obtain ⟨ps', a1, a2, a3⟩ := hT p hp
        refine ⟨ps', by rw [upd_ne (ne_of_none a1 nC), upd_ne hb]; exact a1, a2, fun p' cv hcv => ?_⟩
        obtain ⟨c0, e1, e2⟩ := a3 p' cv hcv
        exact ⟨c0, e1, hE _ _ e2 codeO_ne⟩
    have nF := I1.hok.fresh (Nat.le_refl _)
    have I2 := inv_lam (F := ⟨X.env.qual ++ "<lambda>", params, body, scope, cloFrom X.env.cells scope.names [], c'⟩) (t' := tk) (pm := (X.mg "__name__").getD .none) (ctv := ctv) I1 rfl
    refine h h'.objs.size c' _ _ I2 (fun b o e n => ?_) (T1.ext fun b o e => ?_) (I.hok.fresh (Nat.le_trans hge (Nat.le_of_lt hlt))) upd_same ?_
    · have e1 := hE b o e n
      exact (upd_ne (ne_of_none e1 nF)).trans e1
    · exact (upd_ne (ne_of_none e nF)).trans e
    · exact (upd_ne (Nat.ne_of_lt hlt)).trans upd_same
  | some cv =>
    obtain ⟨c', e, hco⟩ := ha pos cv hc
    subst e
    refine PySem.W.kla_makeFunctionHit (mg := X.mg) (c := c) (P := P) (ps := ps) (closure_ok hfree) I.ok.glob (I.mod.glob.keeps I.bk) hcode (TB.code.keeps I.bk) hP' ht hc bP fun ctv h' tk hx hsz => ?_
    have I1 : Inv X pins σ H { s with heap := h', toks := tk } := I.kept hx
    have nF : H h'.objs.size = none := I1.hok.fresh (Nat.le_refl _)
    have I2 := inv_lam (F := ⟨X.env.qual ++ "<lambda>", params, body, scope, cloFrom X.env.cells scope.names [], c'⟩) (t' := tk) (pm := (X.mg "__name__").getD .none) (ctv := ctv) I1 rfl
    refine h h'.objs.size c' _ _ I2 (fun b o e n => ?_) (hT.ext fun b o e => ?_) nF upd_same ?_
    · exact (upd_ne (ne_of_none e nF)).trans e
    · exact (upd_ne (ne_of_none e nF)).trans e
    · exact (upd_ne (ne_of_none hco nF)).trans hco
end
/-- a lambda called: its body's reading at its start -/
theorem lam_run {CX : CXT} {P : Program} {w : World} {K : PySem.W.Frag} {mg : Str → Option Value} {base : Heap} {N ps fr : List Str} {F : LF} {f : Addr} {k : Nat} {A : Around} {outer : List Env} {s : Shared} {H : Hp} {us : List Value} {vs : List V} {ws : List (Option V)} {Q : VK} {E : XK}
    (S : NScope N ps fr F.scope) (hb : ∀ (pm ctv : Value) (us : List Value), us.length = ps.length → bindArgs (PySem.W.kla_fn "<lambda>" F.qual F.params F.body F.scope F.cl pm (.ref F.c) ctv) ⟨us, []⟩ = pure (ps.zip us))
    (hr : Room (k + 1) A) (e0 : Env0 P w K mg base A outer s H) (hf : H f = some (LamO f F)) (hc : H F.c = some (CodeO F.c F.qual)) (C : CellsAt F.cl fr ws s.heap H) (r : Vals vs us) (hl : vs.length = ps.length)
    (hbody : Room k (A.deeper (envF F.nf f s.heap.objs.size)) → ∃ t, PE (ncx CX P w K mg base N F.nf f A outer s H E) F.body t ∧ t (startF N vs ws) H Q) :
    codeAny (model P w) A (.call (.ref f) ⟨us, []⟩) (CR CX outer P w H s Q E) s := by
  have lim : s.heap.NoLimit := e0.mod.nolimit.keeps fun b o e => (e0.bs b o e).1
  obtain ⟨pm, ctv, ho⟩ := lamO_at e0.hok hf
  refine PySem.W.kla_callFunE hr.depth ho rfl S.co S.gen rfl (codeO_at e0.hok hc) ?_
  rw [hb pm ctv us (by rw [← r.length]; exact hl)]
  refine wpAny_pure (wpAny_newFunctionEnv S.nocell (fun ⟨n, _⟩ hy => S.par n (List.of_mem_zip hy).1) (fun h₁ hns hsb => ⟨lim.fresh _ hsb, ?_⟩) S.kind)
  show codeAny _ _ (.expr F.body (envF F.nf f s.heap.objs.size)) _ _
  have kp : ∀ b o, s.heap.get? b = some o → h₁.get? b = some o := fun b o e => hsb.extBut b o (Nat.ne_of_lt (Heap.lt_size e)) (Heap.get?_push_of_some _ e)
  obtain ⟨t, ht, hq⟩ := hbody (hr.deeper _)
  have I : Inv (ncx CX P w K mg base N F.nf f A outer s H E) [] (startF N vs ws) H { s with heap := h₁, toks := s.toks + (ps.zip us).length } := inv_startN S hr.hd e0 hl r C hns kp
  refine PySem.W.kla_codeExpr (wpAny_mono (ht.run [] _ (startF N vs ws) H _ I hq) (fun v s' hs => ?_) fun e s' hs => hs)
  obtain ⟨w', H', J, rv, q⟩ := hs
  exact ⟨w', H', J.os, J.bare, J.base, J.hok, rv, q⟩
end SH
/-! R2 -/
set_option Elab.async false
set_option linter.all false
set_option maxRecDepth 100000
set_option maxHeartbeats 4000000
/-! min(.., key=lambda n: (levels[n], n)). -/
namespace SH
open PySem PySem.Spec PyProof.Rows L2 LamX NdefX
/-- texts in Python's order -/
def slt (a b : Str) : Prop := a.cps.toList < b.cps.toList
instance (a b : Str) : Decidable (slt a b) := by unfold slt; infer_instance
theorem slt_irr (a : Str) : ¬ slt a a := List.lt_irrefl _
theorem slt_trans {a b c : Str} (h : slt a b) (k : slt b c) : slt a c := List.lt_trans h k
theorem slt_asymm {a b : Str} (h : slt a b) : ¬ slt b a := fun k => slt_irr a (slt_trans h k)
theorem str_ext {a b : Str} (h : a.cps.toList = b.cps.toList) : a = b := PySem.W.str_of_cps h
theorem slt_tri (a b : Str) : slt a b ∨ a = b ∨ slt b a := by
  by_cases h : slt a b
  · exact .inl h
  · by_cases k : slt b a
    · exact .inr (.inr k)
    · have h1 : b.cps.toList ≤ a.cps.toList := List.not_lt.mp h
      have h2 : a.cps.toList ≤ b.cps.toList := List.not_lt.mp k
      exact .inr (.inl (str_ext (List.le_antisymm h2 h1)))
abbrev Kd := Int × Str
def klt (x y : Kd) : Prop := x.1 < y.1 ∨ (x.1 = y.1 ∧ slt x.2 y.2)
instance (x y : Kd) : Decidable (klt x y) := by unfold klt; infer_instance
theorem klt_trans {a b c : Kd} (h : klt a b) (k : klt b c) : klt a c := by
  rcases h with h | ⟨h, h'⟩ <;> rcases k with k | ⟨k, k'⟩
  · exact .inl (by omega)
  · exact .inl (by omega)
  · exact .inl (by omega)
  · exact .inr ⟨by omega, slt_trans h' k'⟩
theorem klt_tri (a b : Kd) : klt a b ∨ a = b ∨ klt b a := by
  rcases Int.lt_trichotomy a.1 b.1 with h | h | h
  · exact .inl (.inl h)
  · rcases slt_tri a.2 b.2 with k | k | k
    · exact .inl (.inr ⟨h, k⟩)
    · exact .inr (.inl (Prod.ext h k))
    · exact .inr (.inr (.inr ⟨h.symm, k⟩))
  · exact .inr (.inr (.inl h))
theorem best_klt (f : Nat → Kd) : ∀ k, argBest (fun i j => decide (klt (f i) (f j))) k ≤ k ∧ ∀ j, j ≤ k → f (argBest (fun i j => decide (klt (f i) (f j))) k) = f j ∨ klt (f (argBest (fun i j => decide (klt (f i) (f j))) k)) (f j)
  | 0 => ⟨Nat.le_refl _, fun j hj => by
    have : j = 0 := by omega
    subst this; exact .inl rfl⟩
  | k + 1 => by
    obtain ⟨h1, h2⟩ := best_klt f k
    simp only [argBest]
    by_cases hc : klt (f (k + 1)) (f (argBest (fun i j => decide (klt (f i) (f j))) k))
    · rw [if_pos (by simpa using hc)]
      refine ⟨Nat.le_refl _, fun j hj => ?_⟩
      rcases Nat.lt_or_ge j (k + 1) with hlt | hge
      · rcases h2 j (by omega) with e | e
        · rw [← e]; exact .inr hc
        · exact .inr (klt_trans hc e)
      · have : j = k + 1 := by omega
        subst this; exact .inl rfl
    · rw [if_neg (by simpa using hc)]
      refine ⟨by omega, fun j hj => ?_⟩
      rcases Nat.lt_or_ge j (k + 1) with hlt | hge
      · exact h2 j (by omega)
      · have : j = k + 1 := by omega
        subst this
        rcases klt_tri (f (argBest (fun i j => decide (klt (f i) (f j))) k)) (f (k + 1)) with z | z | z
        · exact .inr z
        · exact .inl z
        · exact absurd z hc
theorem dataLt_kd (a b : Kd) : PySem.W.dataLt (.tuple [.int a.1, .str a.2]) (.tuple [.int b.1, .str b.2]) = decide (klt a b) := by
  rw [PySem.W.dataLt_tuple]
  by_cases h : a.1 = b.1
  · rw [PySem.W.dataLt_all_yes rfl (by simp [PyData.eqv, h])]
    by_cases k : a.2 = b.2
    · rw [PySem.W.dataLt_all_yes rfl (by simp [PyData.eqv, k])]
      have : ¬ klt a b := fun z => by
        rcases z with z | ⟨_, z⟩
        · omega
        · rw [k] at z; exact slt_irr _ z
      rw [decide_eq_false this]
      decide
    · rw [PySem.W.dataLt_all_no rfl (by simp [PyData.eqv, k]), PySem.W.dataLt_str]
      have : klt a b ↔ a.2.cps.toList < b.2.cps.toList := ⟨fun z => by
        rcases z with z | ⟨_, z⟩
        · omega
        · exact z, fun z => .inr ⟨h, z⟩⟩
      exact decide_eq_decide.mpr this.symm
  · rw [PySem.W.dataLt_all_no rfl (by simp [PyData.eqv, h]), PySem.W.dataLt_int]
    have : klt a b ↔ a.1 < b.1 := ⟨fun z => by
      rcases z with z | ⟨z, _⟩
      · exact z
      · exact absurd z h, fun z => .inl z⟩
    exact decide_eq_decide.mpr this.symm
/-- a tuple of an int and a text -/
def KTup (h : Heap) (k : Value) (p : Addr) (x : Kd) : Prop := k = .ref p ∧ ∃ o t t' n, h.get? p = some o ∧ o.cls = .type "tuple" ∧ o.data = .seq #[.int x.1 t, .str x.2 t'] n
theorem KTup.reads {h : Heap} {k : Value} {p : Addr} {x : Kd} (e : KTup h k p x) : ∃ as, Reads h k (.tuple [.int x.1, .str x.2]) as := by
  obtain ⟨rfl, o, t, t', n, h1, h2, h3⟩ := e
  exact ⟨_, .tuple h1 h2 h3 (.cons (.int _ _) (.cons (.str _ _) .nil))⟩
theorem vals_str : ∀ {ns : List Str} {its : List Value} {i : Nat} {v : Value}, Vals (ns.map V.str) its → its[i]? = some v → ∃ n, ns[i]? = some n ∧ RelV (.str n) v := by
  intro ns its i v r e
  cases h : ns[i]? with
  | none =>
    have := r.none_of (i := i) (by rw [List.getElem?_map, h]; rfl)
    rw [this] at e; cases e
  | some n =>
    obtain ⟨u, h1, h2⟩ := r.get (i := i) (x := .str n) (by rw [List.getElem?_map, h]; rfl)
    rw [e] at h1; cases h1
    exact ⟨n, rfl, h2⟩
section
variable {X : Cx} {pins : List (Addr × Obj)} {σ : L2.St} {H : Hp} {s : Shared} {N : List Str} {F : LF} {f a : Addr} {fr : List Str} {js : List Nat} {k : Nat} {ns : List Str} {lev : Str → Int} {x : Str} {tb : TE} {Q : VK}
/-- .. called -/
theorem min_run (I : Inv X pins σ H s) (S : NScope N [x] fr F.scope) (hb : ∀ (pm ctv : Value) (us : List Value), us.length = [x].length → bindArgs (PySem.W.kla_fn "<lambda>" F.qual F.params F.body F.scope F.cl pm (.ref F.c) ctv) ⟨us, []⟩ = pure ([x].zip us))
    (hr : Room (k + 2) X.A) (cp : Caps X F.cl fr js)
    (hbody : ∀ (A : Around) (outer : List Env) (s : Shared) (H : Hp), Room k (A.deeper (envF F.nf f s.heap.objs.size)) → PE (ncx CX0 X.prog X.w X.K X.mg X.base N F.nf f A outer s H E0) F.body tb)
    (hf : H f = some (LamO f F)) (hc : H F.c = some (CodeO F.c F.qual)) (ha : H a = some (.lst (ns.map V.str))) (hn : ns ≠ [])
    (hk : ∀ n ∈ ns, ∀ (H3 : Hp) (Q' : VK), (∀ b o, b ≠ a → H b = some o → H3 b = some o) → (∀ p, H3 p = none → Q' (.ref p) (upd H3 p (.tup [.int (lev n), .str n]))) → tb (startF N [.str n] (js.map (slotAt σ))) H3 Q')
    (hq : ∀ m ∈ ns, (∀ n ∈ ns, n ≠ m → klt (lev m, m) (lev n, n)) → ∀ H3, (∀ b o, H b = some o → H3 b = some o) → Q (.str m) H3) :
    wpAny (model X.prog X.w) X.A (call (.builtin "min") [.ref a] [(Str.ofString "key", .ref f)]) (EP X pins σ Q) X.xe s := by
  obtain ⟨od, I1⟩ := I.lock ha trivial
  have hz0 : a < s.heap.objs.size := I.hok.lt ha
  generalize hHL : upd H a (.frz od (.lst (ns.map V.str))) = HL at I1
  have haL : HL a = some (.frz od (.lst (ns.map V.str))) := by rw [← hHL]; exact upd_same
  have hne : ∀ b o, b ≠ a → H b = some o → HL b = some o := fun b o h e => by rw [← hHL, upd_ne h]; exact e
  have hfa : f ≠ a := fun z => by rw [z, ha] at hf; cases hf
  have hca : F.c ≠ a := fun z => by rw [z, ha] at hc; cases hc
  have hfL := hne f _ hfa hf
  have hcL := hne _ _ hca hc
  obtain ⟨hod, hz, its, n0, rv, hget⟩ := I1.hok a _ haL
  have hls : s.heap.IsList a its.toArray := ⟨_, hget, rfl, _, rfl⟩
  have hod2 : od = { cls := .type "list", data := .seq its.toArray n0 } := by
    rw [hod] at hget; exact Option.some.inj hget
  have hlen : its.length = ns.length := by have := rv.length; simpa using this.symm
  have hh : X.A.handled = none := hr.hd
  have notFr : ∀ {σ' : L2.St} {H' : Hp} {s' : Shared} (_ : Inv X pins σ' H' s') {b : Addr}, b ∈ frs X.stack → H' b = none := fun J b hb => J.stkFree b hb
  refine call_min_walkK (PySem.W.iter_listW (A := X.A.in1) hh hls fun s2 e2 W st hfp hw hkp => ?_)
  subst e2
  generalize hit : s.heap.objs.size = it at W st hfp hw hkp ⊢
  have hs2sz : (s.heap.push ({ cls := .type "list_iterator", data := .fields #[.ref a, .int 0 0] } : Obj)).objs.size = it + 1 := by rw [Heap.size_push, hit]
  have hz1 : a < it := hit ▸ hz0
  have ait : a ≠ it := Nat.ne_of_lt hz1
  have ait1 : a ≠ it + 1 := Nat.ne_of_lt (Nat.lt_succ_of_lt hz1)
  -- the facts of fresh objects
  have fresh : ∀ b, it ≤ b → b ∉ frs X.stack ∧ b ≠ X.env.locals ∧ b ∉ X.fs ∧ X.s_0.heap.objs.size ≤ b ∧ (∀ x c, X.env.cells.lookup x = some c → c ≠ b) ∧ ∀ p ∈ X.pn ++ pins, p.1 ≠ b := fun b hb => by
    have hb' : s.heap.objs.size ≤ b := by omega
    obtain ⟨_, h2, h3, h4, h5, h6⟩ := I1.fpOk hb' (I1.hok.fresh hb')
    refine ⟨fun z => ?_, h2, h3, Nat.le_trans I1.sz hb', h5, h6⟩
    rcases List.mem_cons.mp (I1.stkSub _ z) with e | e
    · exact h2 e
    · exact h3 e
  let nm : Nat → Str := fun i => ns.getD i ""
  let J : Shared → Prop := fun s' => ∃ H', Inv X pins σ H' s' ∧ (∀ b o, HL b = some o → H' b = some o) ∧ (∀ b, HL b = none → H' b = none ∨ ∃ xs, H' b = some (.tup xs)) ∧ H' it = none ∧ H' (it + 1) = none ∧ s'.heap.get? a = some od
  let Vk : Nat → Value → Shared → Prop := fun i k s' => ∃ p, p ≠ it ∧ p ≠ it + 1 ∧ HL p = none ∧ p ∉ frs X.stack ∧ KTup s'.heap k p (lev (nm i), nm i)
  have movedJ : ∀ s1 s', J s1 → Moved ((it + 1) :: [it]) (fun a b => b = a) s1 s' → J s' := fun s1 s' hJ m => by
    obtain ⟨H', K, e1, e2, e3, e4, e5⟩ := hJ
    have na : a ∉ (it + 1) :: [it] := fun z => by
      rcases List.mem_cons.mp z with z | z
      · exact ait1 z
      · exact ait (by simpa using z)
    refine ⟨H', ?_, e1, e2, e3, e4, m.heap a od na e5⟩
    have K2 := K.turnedL (h' := s'.heap) (t' := s'.toks) (ch := (it + 1) :: [it]) (fun b o hb e => m.heap b o hb e) (fun b hb => by
      have hb2 : (b = it + 1 ∨ b = it) := by
        rcases List.mem_cons.mp hb with z | z
        · exact .inl z
        · exact .inr (by simpa using z)
      have hb3 : it ≤ b := by
        rcases hb2 with z | z
        · rw [z]; exact Nat.le_succ _
        · rw [z]; exact Nat.le_refl _
      obtain ⟨f1, f2, f3, f4, f5, f6⟩ := fresh b hb3
      refine ⟨?_, f2, f3, .inr f4, f5, f6⟩
      rcases hb2 with z | z <;> rw [z] <;> assumption)
    obtain ⟨hp, g, d, tk, os⟩ := s'
    have g1 : g = s1.gens := m.gens
    have g2 : d = s1.drawn := m.drawn
    have g3 : os = s1.os := m.os
    subst g1 g2 g3
    exact K2
  refine ⟨it, [it, a], [it], _, its.toArray.size, _, _, J, Vk, fun i j => decide (klt (lev (nm i), nm i) (lev (nm j), nm j)), rfl, W, st, hfp, ?_, ?_, ?_, ?_⟩
  · have : 0 < ns.length := List.length_pos_iff.mpr hn
    simpa [hlen] using this
  · rw [hs2sz]
    refine ⟨movedJ, fun i k s1 s' hV m => ?_, ?_, ?_⟩
    · obtain ⟨p, p1, p2, p3, p4, e, o, t, t', n, q1, q2, q3⟩ := hV
      exact ⟨p, p1, p2, p3, p4, e, o, t, t', n, m.heap p o (fun z => by
        rcases List.mem_cons.mp z with z | z
        · exact p2 z
        · exact p1 (by simpa using z)) q1, q2, q3⟩
    · -- the key's call
      intro i v s1 o Q1 E1 hi hv hJ hst hS hQ1
      obtain ⟨H', K, e1, e2, e3, e4, e5⟩ := hJ
      obtain ⟨nn, hnn, rnn⟩ := vals_str (i := i) (v := v) rv (by simpa using hv)
      have hnm : nm i = nn := by show ns.getD i "" = nn; rw [List.getD_eq_getElem?_getD, hnn]; rfl
      have hmem : nn ∈ ns := List.mem_of_getElem? hnn
      refine wpAny_call (codeAny_mono (lam_run (CX := CX0) (E := E0) (ws := js.map (slotAt σ)) (vs := [.str nn]) (k := k)
        (Q := fun v H'' => ∃ p, v = .ref p ∧ H' p = none ∧ H'' = upd H' p (.tup [.int (lev nn), .str nn])) S hb hr.in1 K.env0.in1 (e1 _ _ hfL) (e1 _ _ hcL) (cells_of K cp) (.cons rnn .nil) rfl fun hr2 => ⟨tb, hbody _ _ _ _ hr2, ?_⟩) fun r s3 hq3 => ?_)
      · refine hk nn hmem H' _ (fun b o hb e => e1 b o (hne b o hb e)) (fun p hp => ⟨p, rfl, hp, rfl⟩)
      · cases r with
        | error e => exact (show False from hq3).elim
        | ok fl =>
          cases fl with
          | next => exact False.elim hq3
          | brk => exact False.elim hq3
          | cont => exact False.elim hq3
          | ret u =>
            obtain ⟨v3, H3, os3, bare3, un3, hok3, rv3, p, rfl, hp, rfl⟩ := hq3
            obtain rfl : u = Value.ref p := rv3
            obtain ⟨hh3, g3, d3, t3, os'⟩ := s3
            obtain rfl : os' = s1.os := os3
            have K3 : Inv X pins σ _ ⟨hh3, g3, d3, t3, s1.os⟩ := K.call (h' := hh3) (g' := g3) (d' := d3) (t' := t3) (ch := []) un3 hok3 bare3 (fun b z => absurd z (by simp))
            have pne : ∀ b ob, s1.heap.get? b = some ob → H' b = none → p ≠ b := fun b ob q n z => by
              have := un3.free b ob q n (by simp)
              rw [← z, upd_same] at this
              cases this
            obtain ⟨⟨oit, hoit, hoc, hod3⟩, hal⟩ := hst
            have p1 : p ≠ it := pne it _ hoit e3
            have p2 : p ≠ it + 1 := pne _ _ hS e4
            have pa : p ≠ a := fun z => by rw [z, e1 a _ haL] at hp; cases hp
            have kp : ∀ b ob, H' b = none → b ∉ frs X.stack → s1.heap.get? b = some ob → hh3.get? b = some ob := fun b ob n nf q => un3.keep b ob q n nf (by simp)
            have pf : p ∉ frs X.stack := fun z => by
              have := K3.stkFree p z
              rw [upd_same] at this; cases this
            have hLp : HL p = none := by
              cases q : HL p with
              | none => rfl
              | some u => rw [e1 p u q] at hp; cases hp
            have ha3 : hh3.get? a = some od := by
              have q := hok3 a (.frz od (.lst (ns.map V.str))) (by rw [upd_ne (Ne.symm pa)]; exact e1 a _ haL)
              exact q.1
            refine hQ1 _ _ ⟨_, K3, fun b ob q => ?_, fun b q => ?_, ?_, ?_, ha3⟩ ⟨⟨oit, kp it _ e3 (fresh it (Nat.le_refl _)).1 hoit, hoc, hod3⟩, ?_⟩ (kp _ _ e4 (fresh (it + 1) (Nat.le_succ _)).1 hS) ⟨p, p1, p2, hLp, pf, rfl, ?_⟩ (fun j k' hV => ?_)
            · rw [upd_ne (fun z => by rw [z, hLp] at q; cases q)]
              exact e1 b ob q
            · by_cases z : b = p
              · rw [z, upd_same]; exact .inr ⟨_, rfl⟩
              · rw [upd_ne z]; exact e2 b q
            · rw [upd_ne (Ne.symm p1)]; exact e3
            · rw [upd_ne (Ne.symm p2)]; exact e4
            · rw [hod2] at ha3
              exact ⟨_, ha3, rfl, _, rfl⟩
            · obtain ⟨_, its2, r2, o2, ho2, hc2, n2, hd2⟩ := hok3 p (.tup [.int (lev nn), .str nn]) upd_same
              obtain ⟨u1, u2, rfl, ri, rj⟩ := vals2 r2
              obtain ⟨t1, rfl⟩ := ri
              obtain ⟨t2, rfl⟩ := rj
              rw [hnm]
              exact ⟨o2, t1, t2, n2, ho2, hc2, hd2⟩
            · obtain ⟨q, q1, q2, q3, q4, e, o2, t, t', n, w1, w2, w3⟩ := hV
              refine ⟨q, q1, q2, q3, q4, e, ?_⟩
              rcases e2 q q3 with z | ⟨xs, z⟩
              · exact ⟨o2, t, t', n, kp q o2 z q4 w1, w2, w3⟩
              · obtain ⟨_, its2, r2, o3, ho3, hc3, n3, hd3⟩ := K.hok q _ z
                rw [w1] at ho3; cases ho3
                rw [w3] at hd3
                injection hd3 with hd4
                have hi2 : its2 = [.int (lev (nm j)) t, .str (nm j) t'] := by
                  have := congrArg Array.toList hd4
                  simpa using this.symm
                subst hi2
                have hx : xs = [.int (lev (nm j)), .str (nm j)] := by
                  cases r2 with
                  | @cons x1 _ xr _ r3 r4 =>
                    cases r4 with
                    | @cons x2 _ xr2 _ r5 r6 =>
                      cases r6
                      have : x1 = .int (lev (nm j)) := by
                        cases x1 <;> simp [L2.RelV] at r3
                        rw [r3]
                      have h2 : x2 = .str (nm j) := by
                        cases x2 <;> simp [L2.RelV] at r5
                        rw [r5]
                      rw [this, h2]
                have zq := un3.tups q xs z
                rw [hx] at zq
                obtain ⟨_, its3, r5, o5, ho5, hc5, n5, hd5⟩ := hok3 q _ zq
                obtain ⟨u1, u2, rfl, ri, rj⟩ := vals2 r5
                obtain ⟨t1, rfl⟩ := ri
                obtain ⟨t2, rfl⟩ := rj
                exact ⟨o5, t1, t2, n5, ho5, hc5, hd5⟩
    · intro i j ki kj s1 Q1 E1 hJ hi hj hQ1
      obtain ⟨pi, _, _, _, _, ri⟩ := hi
      obtain ⟨pj, _, _, _, _, rj⟩ := hj
      obtain ⟨as, r1⟩ := ri.reads
      obtain ⟨bs, r2⟩ := rj.reads
      refine PySem.W.rcLt_alike _ _ X.A.in1 s1 ki kj _ _ r1 r2 rfl (fun z => nomatch z) ?_ X.prog X.w E1 Q1 ?_
      · have := hr.units
        show X.A.units + 1 + _ < _
        have e : min (PyData.tuple [.int (lev (nm i)), .str (nm i)]).depth (PyData.tuple [.int (lev (nm j)), .str (nm j)]).depth = 1 := by simp [PyData.depth, PyData.depthAll]
        rw [e]; omega
      · rw [dataLt_kd (lev (nm i), nm i) (lev (nm j), nm j)]
        exact hQ1
  · refine ⟨HL, I1.kept (h' := s.heap.push _) (t' := s.toks) (fun b u e => Heap.get?_push_of_some _ e), fun _ _ e => e, fun b e => .inl e, I1.hok.fresh (by omega), I1.hok.fresh (by omega), Heap.get?_push_of_some _ hod⟩
  · intro v s' hP hJ
    obtain ⟨H', K, e1, e2, e3, e4, e5⟩ := hJ
    have hsz : its.toArray.size = ns.length := by simpa using hlen
    have hpos : 0 < ns.length := List.length_pos_iff.mpr hn
    obtain ⟨b1, b2⟩ := best_klt (fun i => (lev (nm i), nm i)) (its.toArray.size - 1)
    obtain ⟨m, hm, rm⟩ := vals_str (v := v) rv (by simpa using hP)
    have hnm : nm (argBest (fun i j => decide (klt (lev (nm i), nm i) (lev (nm j), nm j))) (its.toArray.size - 1)) = m := by
      show ns.getD _ "" = m
      rw [List.getD_eq_getElem?_getD, List.size_toArray, hm]; rfl
    have haH := e1 a _ haL
    refine ⟨.str m, _, K.unlock haH (I.nofrz ha trivial), rm, hq m (List.mem_of_getElem? hm) (fun n hn' hne' => ?_) _ (fun b o e => ?_)⟩
    · obtain ⟨j, hj⟩ := List.mem_iff_getElem?.mp hn'
      have hjl : j < ns.length := (List.getElem?_eq_some_iff.mp hj).1
      have := b2 j (by omega)
      have hnj : nm j = n := by show ns.getD j "" = n; rw [List.getD_eq_getElem?_getD, hj]; rfl
      rw [hnm, hnj] at this
      rcases this with z | z
      · exact absurd (congrArg Prod.snd z).symm hne'
      · exact z
    · by_cases hb : b = a
      · rw [hb, ha] at e; cases e
        rw [hb, upd_same]
      · rw [upd_ne hb]; exact e1 b o (hne b o hb e)
end
end SH
/-! R8 -/
set_option Elab.async false
set_option linter.all false
set_option maxRecDepth 100000
set_option maxHeartbeats 4000000
/-! Sets of tuples of texts (the steps of HandS.TupSets, there of ints; printed by mk8.py). -/
namespace SH.TSS
open PySem PySem.Spec PyProof.Rows L2
abbrev thash (P : Program) (w : World) (k : List Str) : Int := tupleKeyHash (strKind P w) k
abbrev IsT (P : Program) (w : World) (h : Heap) (k : List Str) (a : Addr) : Prop := IsTupleKey (strKind P w) h k a
section
variable {P : Program} {w : World} {A : Around} {E : Value → Shared → Prop} {s : Shared}
theorem items_str2 {k : List Str} {vs : List Value} (h : ItemsAre (strKind P w) k vs) : ∀ v ∈ vs, ∃ i t, v = Value.str i t := by
  induction h with
  | nil => intro v hv; cases hv
  | @cons k0 v' ks vs h1 _ ih =>
    intro v hv
    rcases List.mem_cons.mp hv with e | hv
    · obtain ⟨t, e2⟩ := Value.isStrOf_shape h1
      exact ⟨k0, t, e.trans e2⟩
    · exact ih v hv
theorem ofAClass_str2 (n : Nat) (i : Str) (t : Tok) : ofAClassStatement n (.str i t) = pure false := by
  cases n <;> rfl
theorem hashBy_str2 (n : Nat) (i : Str) (t : Tok) : hashByValue n (.str i t) = pure false := by
  cases n <;> rfl
/-- whether a tuple's hash is by value: some answer -/
theorem hashBy_any {k : List Str} {b : Addr} {Q : Bool → Shared → Prop} (hk : IsT P w s.heap k b) (h : ∀ c, Q c s) : wpAny (model P w) A (hashByValue 8 (.ref b)) Q E s := by
  have hT := hk.typeIs
  obtain ⟨o, items, n, ho, _, hd, hi⟩ := hk
  unfold hashByValue
  refine wpAny_bind (wpAny_specialOf hT F.slot_tuple_hash.lookup ?_)
  show wpAny _ _ (seqItems? (.ref b) >>= _) _ _ s
  refine wpAny_bind (wpAny_seqItems ho hd ?_)
  refine wpAny_bind ?_
  show wpAny _ _ (forIn items _ _) _ _ s
  rw [← Array.forIn_toList]
  refine wpAny_forIn_list _ (fun rest r s' => r.1 = none ∧ s' = s ∧ ∀ v ∈ rest, ∃ i t, v = Value.str i t) _ ?_ ?_ _ _ ⟨rfl, rfl, items_str2 hi⟩
  · rintro v rest r s' ⟨hr, rfl, hall⟩
    obtain ⟨i, t, rfl⟩ := hall v List.mem_cons_self
    rw [hashBy_str2]
    refine wpAny_bind (wpAny_pure ?_)
    simp only [Bool.not_false, if_true]
    exact wpAny_pure (wpAny_pure (h false))
  · rintro ⟨r1, r2⟩ s' ⟨hr, rfl, _⟩
    simp only at hr
    subst hr
    exact wpAny_pure (h true)
theorem ite_any {α : Type} {M : Model} {c : Prop} [Decidable c] {m1 m2 : Sem Bool} {f : Bool → Sem α} {Q : α → Shared → Prop} (h1 : c → ∀ Q' : Bool → Shared → Prop, (∀ b, Q' b s) → wpAny M A m1 Q' E s) (h2 : ¬ c → ∀ Q' : Bool → Shared → Prop, (∀ b, Q' b s) → wpAny M A m2 Q' E s)
    (h : ∀ b, wpAny M A (f b) Q E s) : wpAny M A (if c then (m1 >>= f) else (m2 >>= f)) Q E s := by
  by_cases hc : c
  · rw [if_pos hc]; exact wpAny_bind (h1 hc _ h)
  · rw [if_neg hc]; exact wpAny_bind (h2 hc _ h)
theorem tabOk_cong {t t' : SetTable} {hs : List Int} (T : TabOk t hs) (h1 : t'.place = t.place) (h2 : t'.mask = t.mask) (h3 : t'.dummies = t.dummies) : TabOk t' hs :=
  ⟨by rw [h1]; exact T.ris, by rw [h3]; exact T.dm, by rw [h1]; exact T.sz, by rw [h2]; exact T.mok, by rw [h1, h2]; exact T.bd, by rw [h1, h2]; exact T.reach⟩
theorem ofAClass_tup {k : List Str} {b : Addr} {Q : Bool → Shared → Prop} (hk : IsT P w s.heap k b) (h : Q false s) : wpAny (model P w) A (ofAClassStatement 8 (.ref b)) Q E s := by
  have hT := hk.typeIs
  obtain ⟨o, items, n, ho, _, hd, hi⟩ := hk
  unfold ofAClassStatement
  refine wpAny_bind (wpAny_typeOf hT ?_)
  dsimp only
  have e : (("tuple" : String) == "tuple") = true := by decide
  simp only [e, if_true, Bool.not_true, Bool.false_eq_true, if_false]
  try refine wpAny_bind (wpAny_pure ?_)
  try simp only [Bool.not_true, Bool.false_eq_true, if_false]
  show wpAny _ _ (seqItems? (.ref b) >>= _) _ _ s
  refine wpAny_bind (wpAny_seqItems ho hd ?_)
  dsimp only
  refine wpAny_bind ?_
  show wpAny _ _ (forIn items _ _) _ _ s
  rw [← Array.forIn_toList]
  refine wpAny_forIn_list _ (fun rest r s' => r.1 = none ∧ s' = s ∧ ∀ v ∈ rest, ∃ i t, v = Value.str i t) _ ?_ ?_ _ _ ⟨rfl, rfl, items_str2 hi⟩
  · rintro v rest r s' ⟨hr, rfl, hall⟩
    obtain ⟨i, t, rfl⟩ := hall v List.mem_cons_self
    rw [ofAClass_str2]
    refine wpAny_bind (wpAny_pure ?_)
    simp only [Bool.false_eq_true, if_false]
    exact wpAny_pure ⟨rfl, rfl, fun u hu' => hall u (List.mem_cons_of_mem _ hu')⟩
  · rintro ⟨r1, r2⟩ s' ⟨hr, rfl, _⟩
    simp only at hr
    subst hr
    exact wpAny_pure h

theorem seen_tup {k : List Str} {b : Addr} {Q : Bool → Shared → Prop} (hk : IsT P w s.heap k b) {ys : List Value} (hy : ∀ y ∈ ys, ∃ k' c, y = Value.ref c ∧ IsT P w s.heap k' c) (h : Q false s) :
    wpAny (model P w) A (searchCouldBeSeen (.ref b) ys) Q E s := by
  unfold searchCouldBeSeen
  refine wpAny_bind ?_
  refine wpAny_forIn_list _ (fun rest r s' => r.1 = none ∧ s' = s ∧ ∀ y ∈ rest, ∃ k' c, y = Value.ref c ∧ IsT P w s.heap k' c) _ ?_ ?_ _ _ ⟨rfl, rfl, hy⟩
  · rintro v rest r s' ⟨hr, rfl, hall⟩
    obtain ⟨k', c, rfl, hc⟩ := hall v List.mem_cons_self
    have rest' : ∀ y ∈ rest, ∃ k' c, y = Value.ref c ∧ IsT P w s'.heap k' c := fun u hu' => hall u (List.mem_cons_of_mem _ hu')
    dsimp only
    by_cases hv : (b == c || (carriedByValue (.ref b) && carriedByValue (.ref c))) = true
    · refine wp_if_pos hv ?_
      exact wpAny_pure ⟨rfl, rfl, rest'⟩
    · refine wp_if_neg hv ?_
      refine wpAny_bind (wpAny_eqIsQuiet_tuple hk ?_)
      simp only [Bool.not_true, Bool.false_eq_true, if_false]
      refine wpAny_bind (wpAny_eqIsQuiet_tuple hc ?_)
      simp only [Bool.not_true, Bool.false_eq_true, if_false]
      refine wpAny_bind (ofAClass_tup hk ?_)
      simp only [Bool.false_eq_true, if_false]
      refine wpAny_bind (ofAClass_tup hc ?_)
      simp only [Bool.false_eq_true, if_false]
      exact wpAny_pure ⟨rfl, rfl, rest'⟩
  · rintro ⟨r1, r2⟩ s' ⟨hr, rfl, _⟩
    simp only at hr
    subst hr
    exact wpAny_pure h

/-! ### the set of tuples -/
def rowsOf (P : Program) (w : World) (L : List (Addr × List Str)) : List (Int × Value) := L.map fun p => (thash P w p.2, Value.ref p.1)
structure SetTR (P : Program) (w : World) (h : Heap) (a : Addr) (L : List (Addr × List Str)) (es : Array (Int × Value)) (ep : Nat) (t : SetTable) : Prop where
  ob : ∃ o, h.get? a = some o ∧ o.ExactSet ∧ o.data = .set es ep t
  rows : es.toList = rowsOf P w L
  tab : TabOk t (L.map fun p => thash P w p.2)
  nd : (L.map (·.2)).Nodup
  tup : ∀ p ∈ L, IsT P w h p.2 p.1
  led : w.params.followText "set-order" = true ∨ t.led = true
  room : L.length * 5 < t.mask * 3
  few : L.length < 64
variable {a : Addr} {L : List (Addr × List Str)} {es : Array (Int × Value)} {ep : Nat} {t : SetTable}
theorem SetTR.size (R : SetTR P w s.heap a L es ep t) : es.size = L.length := by
  have h := congrArg List.length R.rows
  unfold rowsOf at h
  rw [Array.length_toList, List.length_map] at h
  exact h
theorem SetTR.fits (R : SetTR P w s.heap a L es ep t) : t.fits es.size = true := by
  have h1 := R.tab.sz
  rw [List.length_map] at h1
  have h2 := R.size
  have h3 := R.room
  unfold SetTable.fits SetTable.fill
  rw [R.tab.dm, Bool.and_eq_true, beq_iff_eq, decide_eq_true_eq]
  show t.place.size = es.size ∧ t.place.size + 0 ≤ t.mask
  omega
theorem SetTR.entry (R : SetTR P w s.heap a L es ep t) {i : Nat} {p : Addr × List Str} (h : L[i]? = some p) : es[i]? = some (thash P w p.2, Value.ref p.1) := by
  rw [← Array.getElem?_toList, R.rows]
  unfold rowsOf
  rw [List.getElem?_map, h] <;> rfl
theorem SetTR.gw (R : SetTR P w s.heap a L es ep t) : ¬ t.gaveWay = true := by
  unfold SetTable.gaveWay
  rw [mask_odd R.tab.mok]
  show ¬ (1 == 0) = true
  decide

theorem search_from (R : SetTR P w s.heap a L es ep t) {x : Addr} {k : List Str} (hx : IsT P w s.heap k x) (hu : A.units < cLine) {K : Nat} (hKf : K < 10 * SetTable.turns t.mask)
    (hK : way t.mask (thash P w k) K ∉ t.place.toList) (hKb : ∀ c, c < K → way t.mask (thash P w k) c ∈ t.place.toList) {Q : SetFound → Shared → Prop}
    (hin : k ∈ L.map (·.2) → Q (.there none) s) (hout : k ∉ L.map (·.2) → Q (.free (way t.mask (thash P w k) K) false) s) :
    ∀ (f c : Nat) (stand : Option SetTable.Probe), stand.getD (t.probeStart (thash P w k)) = nth t.mask (runAt t.mask (SetTable.bits (thash P w k) % (t.mask + 1)) (SetTable.bits (thash P w k))) c → c ≤ K → K - c < f →
      (∀ (i : Nat) p, L[i]? = some p → p.2 = k → ∃ c', c ≤ c' ∧ c' < K ∧ t.place.toList[i]? = some (way t.mask (thash P w k) c')) →
      wpAny (model P w) A (setSearchFrom a (.ref x) (thash P w k) true f stand) Q E s
  | 0, c, stand, _, _, hf, _ => absurd hf (Nat.not_lt_zero _)
  | f + 1, c, stand, hst, hc, hf, hre => by
    obtain ⟨o, ho, hex, hd⟩ := R.ob
    rw [setSearchFrom_succ]
    refine wpAny_bind (wpAny_setState_of ho hd R.fits ?_)
    dsimp only
    refine wp_if_neg R.gw ?_
    try refine wpAny_bind (wpAny_pure ?_)
    have hnd : (nth t.mask (runAt t.mask (SetTable.bits (thash P w k) % (t.mask + 1)) (SetTable.bits (thash P w k))) c).dummy = none := by
      have key : ∀ (n : Nat) (p : SetTable.Probe), p.dummy = none → (nth t.mask p n).dummy = none := by
        intro n
        induction n with
        | zero => intro p h; exact h
        | succ n ih =>
          intro p h
          refine ih (adv t.mask p) ?_
          unfold adv
          split <;> exact h
      exact key c _ rfl
    have sh : ∀ q, nth t.mask (nth t.mask (runAt t.mask (SetTable.bits (thash P w k) % (t.mask + 1)) (SetTable.bits (thash P w k))) c) q = nth t.mask (runAt t.mask (SetTable.bits (thash P w k) % (t.mask + 1)) (SetTable.bits (thash P w k))) (c + q) := fun q => (nth_add t.mask c _ q).symm
    have e1 : ∀ q, (nth t.mask (nth t.mask (runAt t.mask (SetTable.bits (thash P w k) % (t.mask + 1)) (SetTable.bits (thash P w k))) c) q).j = way t.mask (thash P w k) (c + q) := fun q => congrArg SetTable.Probe.j (sh q)
    have spec := go_spec t R.tab.ris R.tab.dm (fun i => (es[i]?.map (·.1)).getD 0) (thash P w k) (10 * SetTable.turns t.mask) (K - c) _ hnd (by omega)
      (fun q hq => by rw [e1]; exact hKb (c + q) (by omega)) (by rw [e1, show c + (K - c) = K by omega]; exact hK)
    have hashAt : ∀ (i : Nat) p, L[i]? = some p → (fun i => (es[i]?.map (·.1)).getD 0) i = thash P w p.2 := fun i p hp => by
      show (es[i]?.map (·.1)).getD 0 = _
      rw [R.entry hp] <;> rfl
    rcases spec with ⟨q, i, hq, hi, hh, hno, hpr⟩ | ⟨hno, hpr⟩
    · -- a candidate
      have hpr' : t.probe (fun i => (es[i]?.map (·.1)).getD 0) (thash P w k) (stand.getD (t.probeStart (thash P w k))) = some (.candidate (way t.mask (thash P w k) (c + q)) i (nth t.mask (runAt t.mask (SetTable.bits (thash P w k) % (t.mask + 1)) (SetTable.bits (thash P w k))) (c + (q + 1)))) := by
        rw [hst, ← e1, ← sh]
        exact hpr
      rw [hpr']
      dsimp only
      rw [e1] at hi
      -- the entry
      have hil : i < L.length := by
        have h1 : i < t.place.toList.length := (List.getElem?_eq_some_iff.mp hi).1
        have h2 := R.tab.sz
        rw [List.length_map] at h2
        rw [Array.length_toList] at h1
        omega
      have hp : L[i]? = some L[i] := List.getElem?_eq_getElem hil
      generalize hpe : L[i] = p at hp
      have hmem : p ∈ L := List.mem_of_getElem? hp
      have hpt := R.tup p hmem
      have rest : wpAny (model P w) A (searchRest a (.ref x) (thash P w k) true f es t (way t.mask (thash P w k) (c + q)) i (nth t.mask (runAt t.mask (SetTable.bits (thash P w k) % (t.mask + 1)) (SetTable.bits (thash P w k))) (c + (q + 1)))) Q E s := by
        unfold searchRest
        rw [R.entry hp]
        dsimp only
        refine wpAny_bind (wpAny_holding (wpAny_eqBool_tuple hu hpt hx ?_))
        refine wpAny_bind (wpAny_setState_of ho hd R.fits ?_)
        dsimp only
        by_cases hkk : p.2 = k
        · refine wp_if_pos (by simp [hkk]) ?_
          refine wpAny_pure (hin ?_)
          exact List.mem_map.mpr ⟨p, hmem, hkk⟩
        · refine wp_if_neg (by simp [hkk]) ?_
          try refine wpAny_bind (wpAny_pure ?_)
          rw [sameMem]
          dsimp only
          have hsl : t.slot (way t.mask (thash P w k) (c + q)) = .live i := slot_live R.tab.ris hi
          simp only [if_true, hsl, R.entry hp]
          refine wpAny_bind (wpAny_isSame_ref_self (wpAny_bind (wpAny_pure ?_)))
          simp only [if_true]
          refine wp_if_neg (by simp [hkk]) ?_
          refine search_from R hx hu hKf hK hKb hin hout f (c + (q + 1)) _ rfl (by omega) (by omega) fun i0 p0 h0 hk0 => ?_
          obtain ⟨c', a1, a2, a3⟩ := hre i0 p0 h0 hk0
          refine ⟨c', ?_, a2, a3⟩
          -- it isn't passed
          rcases Nat.lt_or_ge c' (c + q) with z | z
          · exfalso
            refine hno (c' - c) i0 (by omega) (by rw [e1, show c + (c' - c) = c' by omega]; exact a3) ?_
            exact (hashAt i0 p0 h0).trans (congrArg (thash P w) hk0)
          · rcases Nat.lt_or_ge (c + q) c' with y | y
            · omega
            · exfalso
              have ec : c' = c + q := Nat.le_antisymm y z
              rw [ec] at a3
              have s0 := slot_live R.tab.ris a3
              rw [hsl] at s0
              injection s0 with s0
              rw [← s0, hp] at h0
              exact hkk ((congrArg Prod.snd (Option.some.inj h0)).trans hk0)
      by_cases hl : t.led = true
      · refine wp_if_neg (by simp [hl]) ?_
        try refine wpAny_bind (wpAny_pure ?_)
        exact rest
      · refine wp_if_pos (by simp [hl]) ?_
        refine wpAny_bind (seen_tup hx (fun y hy => ?_) ?_)
        · obtain ⟨e, he, ee⟩ := List.mem_map.mp hy
          have he1 : e ∈ es ∧ e.1 = thash P w k := by simpa using he
          have he2 : e ∈ es.toList := by simpa using he1.1
          rw [R.rows] at he2
          obtain ⟨p2, hp2, e2⟩ := List.mem_map.mp he2
          refine ⟨p2.2, p2.1, ?_, R.tup p2 hp2⟩
          rw [← ee, ← e2]
        · refine wp_if_neg (by decide) ?_
          try refine wpAny_bind (wpAny_pure ?_)
          exact rest
    · -- the empty slot
      have hpr' : t.probe (fun i => (es[i]?.map (·.1)).getD 0) (thash P w k) (stand.getD (t.probeStart (thash P w k))) = some (.empty (way t.mask (thash P w k) K) none) := by
        have e2 : way t.mask (thash P w k) K = (nth t.mask (nth t.mask (runAt t.mask (SetTable.bits (thash P w k) % (t.mask + 1)) (SetTable.bits (thash P w k))) c) (K - c)).j := by
          rw [e1, show c + (K - c) = K by omega]
        rw [hst, e2]
        exact hpr
      rw [hpr']
      dsimp only
      refine wpAny_pure (hout fun hm => ?_)
      obtain ⟨p0, h0, hk0⟩ := List.mem_map.mp hm
      obtain ⟨i0, hi0, e0⟩ := List.getElem_of_mem h0
      have h00 : L[i0]? = some p0 := by rw [List.getElem?_eq_getElem hi0, e0]
      obtain ⟨c', a1, a2, a3⟩ := hre i0 p0 h00 hk0
      refine hno (c' - c) i0 (by omega) (by rw [e1, show c + (c' - c) = c' by omega]; exact a3) ?_
      exact (hashAt i0 p0 h00).trans (congrArg (thash P w) hk0)

/-- the search as adding asks for it -/
theorem search_at (R : SetTR P w s.heap a L es ep t) {x : Addr} {k : List Str} (hx : IsT P w s.heap k x) (hu : A.units < cLine) {Q : SetFound → Shared → Prop}
    (hin : k ∈ L.map (·.2) → Q (.there none) s)
    (hout : ∀ K, k ∉ L.map (·.2) → way t.mask (thash P w k) K ∉ t.place.toList → (∀ c, c < K → way t.mask (thash P w k) c ∈ t.place.toList) → Q (.free (way t.mask (thash P w k) K) false) s) :
    wpAny (model P w) A (setSearch a (.ref x) (thash P w k) true) Q E s := by
  have hroom := R.room
  obtain ⟨K, hKf, hK, hKb⟩ := R.tab.first (by rw [List.length_map]; omega) (thash P w k)
  have hbig : K < 100000 := by
    have : 10 * SetTable.turns t.mask ≤ 1420 := by
      unfold SetTable.turns
      rcases R.tab.mok with e | e | e <;> omega
    omega
  unfold setSearch
  refine search_from R hx hu hKf hK hKb hin (fun hn => hout K hn hK hKb) 100000 0 none rfl (Nat.zero_le _) (by omega) fun i p hp hk => ?_
  have hi : (L.map fun p => thash P w p.2)[i]? = some (thash P w k) := by rw [List.getElem?_map, hp, ← hk] <;> rfl
  have hil : i < t.place.toList.length := by
    have h1 : i < L.length := (List.getElem?_eq_some_iff.mp hp).1
    have h2 := R.tab.sz
    rw [List.length_map] at h2
    rw [Array.length_toList]
    omega
  have hj := List.getElem?_eq_getElem hil
  obtain ⟨c, hc, e⟩ := R.tab.before hK hi hj
  exact ⟨c, Nat.zero_le _, hc, by rw [hj, e]⟩
end
section
variable {P : Program} {w : World} {A : Around} {E : Value → Shared → Prop} {s : Shared}
variable {a : Addr} {L : List (Addr × List Str)} {es : Array (Int × Value)} {ep : Nat} {t : SetTable}
theorem isT_same {h h' : Heap} {k : List Str} {a b : Addr} {o : Obj} {es : Array (Int × Value)} {ep : Nat} {t : SetTable} (hb : IsT P w h k b) (ho : h.get? a = some o) (hd : o.data = .set es ep t) (hs : Heap.SameBut a h h') : IsT P w h' k b := by
  obtain ⟨o', items, n, ho', hc, hd', hi⟩ := hb
  have hne : b ≠ a := by
    rintro rfl
    obtain rfl : o' = o := Option.some.inj (ho'.symm.trans ho)
    rw [hd] at hd'
    exact nomatch hd'
  exact ⟨o', items, n, (hs.2 b hne).trans ho', hc, hd', hi⟩
theorem rows_put (L : List (Addr × List Str)) (p : Nat) (x : Addr) (k : List Str) : rowsOf P w (L.take p ++ (x, k) :: L.drop p) = (rowsOf P w L).take p ++ (thash P w k, Value.ref x) :: (rowsOf P w L).drop p := by
  unfold rowsOf
  rw [List.map_append, List.map_cons, List.map_take, List.map_drop]

theorem order_rows (L : List (Addr × List Str)) (es : Array (Int × Value)) (order : Array Nat) (hr : es.toList = rowsOf P w L) (hp : order.toList.Perm (List.range L.length)) :
    ∃ L2, (order.filterMap (es[·]?)).toList = rowsOf P w L2 ∧ L2.Perm L ∧ (L2.map fun p => thash P w p.2) = order.toList.map fun i => (es.map (·.1)).getD i 0 := by
  have hsz : es.size = L.length := by
    have h := congrArg List.length hr
    unfold rowsOf at h
    rw [Array.length_toList, List.length_map] at h
    exact h
  have ent : ∀ i (h : i < L.length), es[i]? = some (thash P w (L[i]).2, Value.ref (L[i]).1) := fun i h => by
    rw [← Array.getElem?_toList, hr]
    unfold rowsOf
    rw [List.getElem?_map, List.getElem?_eq_getElem h] <;> rfl
  have key : ∀ l : List Nat, (∀ i ∈ l, i < L.length) → ∃ L2 : List (Addr × List Str), l.filterMap (fun i => es[i]?) = rowsOf P w L2 ∧ L2 = l.filterMap (fun i => L[i]?) ∧ (L2.map fun p => thash P w p.2) = l.map fun i => (es.map (·.1)).getD i 0 := by
    intro l
    induction l with
    | nil => intro _; exact ⟨[], rfl, rfl, rfl⟩
    | cons i l ih =>
      intro hl
      have hi := hl i List.mem_cons_self
      obtain ⟨L2, e1, e2, e3⟩ := ih fun j hj => hl j (List.mem_cons_of_mem _ hj)
      refine ⟨L[i] :: L2, ?_, ?_, ?_⟩
      · rw [List.filterMap_cons_some (ent i hi), e1] <;> rfl
      · rw [List.filterMap_cons_some (List.getElem?_eq_getElem hi), e2]
      · rw [List.map_cons, List.map_cons, e3]
        have hi2 : i < (es.map (·.1)).size := by rw [Array.size_map, hsz]; exact hi
        have e4 : (es.map (·.1)).getD i 0 = thash P w (L[i]).2 := by
          have e5 : (es.map (·.1))[i]? = some (thash P w (L[i]).2) := by rw [Array.getElem?_map, ent i hi] <;> rfl
          simp [Array.getD_eq_getD_getElem?, e5]
        rw [e4]
  obtain ⟨L2, e1, e2, e3⟩ := key order.toList fun i hi => List.mem_range.mp (hp.mem_iff.mp hi)
  refine ⟨L2, by first | (rw [Array.toList_filterMap]; exact e1) | simpa using e1, ?_, e3⟩
  have h1 : L2.Perm ((List.range L.length).filterMap fun i => L[i]?) := by
    rw [e2]
    exact hp.filterMap _
  have h2 : (List.range L.length).filterMap (fun i => L[i]?) = L := by
    have key2 : ∀ n, n ≤ L.length → (List.range n).filterMap (fun i => L[i]?) = L.take n := by
      intro n
      induction n with
      | zero => intro _; rfl
      | succ n ih =>
        intro hn
        have hlt : n < L.length := hn
        rw [List.range_succ, List.filterMap_append, ih (Nat.le_of_lt hlt), List.take_succ, List.getElem?_eq_getElem hlt]
        rw [List.filterMap_cons_some (List.getElem?_eq_getElem hlt)] <;> rfl
    rw [key2 L.length (Nat.le_refl _), List.take_length]
  rw [h2] at h1
  exact h1


/-- the table laid anew, larger -/
theorem relay_at {o : Obj} (ho : s.heap.get? a = some o) (hex : o.ExactSet) (hd : o.data = .set es ep t) (hrows : es.toList = rowsOf P w L) (hsz : t.place.size = es.size) (hdm : t.dummies = #[]) (hfl : es.size ≤ t.mask)
    (nd : (L.map (·.2)).Nodup) (tup : ∀ p ∈ L, IsT P w s.heap p.2 p.1) (ld : w.params.followText "set-order" = true ∨ t.led = true) (few : L.length < 64) {wanted M : Nat}
    (hw : SetTable.sizeAbove wanted - 1 = M) (hM : MaskOk M) (hw2 : SetTable.sizeAbove wanted ≤ 128) (hn : L.length * 5 < M * 3) {Q : Unit → Shared → Prop}
    (hQ : ∀ h' L' es' ep' t', Heap.SameBut a s.heap h' → SetTR P w h' a L' es' ep' t' → L'.Perm L → Q () { s with heap := h' }) : wpAny (model P w) A (setRelay a wanted) Q E s := by
  have hsl : es.size = L.length := by
    have h := congrArg List.length hrows
    unfold rowsOf at h
    rw [Array.length_toList, List.length_map] at h
    exact h
  have hfits : t.fits es.size = true := by
    unfold SetTable.fits SetTable.fill
    rw [hdm, Bool.and_eq_true, beq_iff_eq, decide_eq_true_eq]
    show t.place.size = es.size ∧ t.place.size + 0 ≤ t.mask
    omega
  obtain ⟨t', order, e, hp, T, em, el, ep', ed⟩ := relaid_ok t (hs := es.map (·.1)) (wanted := wanted) hw hM (by rw [Array.size_map, hsl]; omega)
  rw [Array.size_map, hsl] at hp
  obtain ⟨L2, r1, r2, r3⟩ := order_rows L es order hrows hp
  rw [← r3] at T
  have hs2 : (order.filterMap (es[·]?)).size = es.size := by
    have h := congrArg List.length r1
    unfold rowsOf at h
    rw [Array.length_toList, List.length_map, r2.length_eq] at h
    rw [h, hsl]
  rw [setRelay_eq]
  refine wpAny_bind (wpAny_setState_of ho hd hfits ?_)
  dsimp only
  refine wp_if_neg (by rw [sizeLine_eq]; omega) ?_
  try refine wpAny_bind (wpAny_pure ?_)
  rw [e]
  dsimp only
  refine wpAny_bind ?_
  refine wp_if_neg (by rw [hs2]; simp) ?_
  try refine wpAny_bind (wpAny_pure ?_)
  refine wpAny_pure ?_
  dsimp only
  refine wpAny_storeSet_of ho hd ?_ (by rw [hs2, hsl, sizeLine_eq]; omega)
  have sb : Heap.SameBut a s.heap (s.heap.update a (Obj.putSet (order.filterMap (es[·]?)) t')) := Heap.SameBut.update ..
  refine hQ _ L2 (order.filterMap (es[·]?)) (ep + 1) t' sb ?_ r2
  refine ⟨⟨_, store_at ho hd, ⟨hex.1, hex.2.1, hex.2.2⟩, rfl⟩, r1, T, ?_, fun p hpm => isT_same (tup p (r2.mem_iff.mp hpm)) ho hd sb, by rw [el]; exact ld, ?_, by rw [r2.length_eq]; exact few⟩
  · exact (r2.map (·.2)).nodup_iff.mpr nd
  · rw [r2.length_eq, em]
    exact hn

/-- ADDING -/
theorem add_at (R : SetTR P w s.heap a L es ep t) {x : Addr} {k : List Str} (hx : IsT P w s.heap k x) (hu : A.units < cLine) (hfew : L.length + 1 < 64) {Q : Bool → Shared → Prop}
    (hQ : ∀ b h' L' es' ep' t', Heap.SameBut a s.heap h' → SetTR P w h' a L' es' ep' t' → (k ∈ L.map (·.2) → L' = L) → (k ∉ L.map (·.2) → L'.Perm ((x, k) :: L)) → Q b { s with heap := h' }) :
    wpAny (model P w) A (setAddHashed a (.ref x) (thash P w k)) Q E s := by
  obtain ⟨o, ho, hex, hd⟩ := R.ob
  have hsl := R.size
  have hroom := R.room
  unfold setAddHashed
  refine wpAny_holding ?_
  rw [show (100000 : Nat) = 99999 + 1 from rfl, setAddHashedIn_succ]
  refine wpAny_bind (wpAny_setState_of ho hd R.fits ?_)
  dsimp only
  refine wp_if_neg (by simp [byScan, Value.scannable]) ?_
  try refine wpAny_bind (wpAny_pure ?_)
  refine wpAny_bind (search_at R hx hu (fun hm => ?_) fun K hm hK hb => ?_)
  · dsimp only
    exact wpAny_pure (hQ false s.heap L es ep t (Heap.SameBut.refl a s.heap) R (fun _ => rfl) fun z => absurd hm z)
  · dsimp only
    refine wpAny_bind (wpAny_setState_of ho hd R.fits ?_)
    dsimp only
    obtain ⟨q1, q2, q3, q4, q5, q6, q7, q8, q9⟩ := R.tab.put hK hb
    generalize hpt : t.put (way t.mask (thash P w k) K) = pt at q1 q3 q4 q5 q6 q7 q8 q9 ⊢
    obtain ⟨t1, p⟩ := pt
    dsimp only at q1 q3 q4 q5 q6 q7 q8 q9 ⊢
    subst q1
    refine ite_any (fun _ Q hq => hashBy_any hx hq) (fun _ Q hq => wpAny_pure (hq true)) fun bv => ?_
    have f1 : (if bv = true then t1 else { t1 with plain := false }).place = t1.place := by cases bv <;> rfl
    have f2 : (if bv = true then t1 else { t1 with plain := false }).mask = t1.mask := by cases bv <;> rfl
    have f3 : (if bv = true then t1 else { t1 with plain := false }).dummies = t1.dummies := by cases bv <;> rfl
    have f4 : (if bv = true then t1 else { t1 with plain := false }).led = t1.led := by cases bv <;> rfl
    have f5 : (if bv = true then t1 else { t1 with plain := false }).tooFull = t1.tooFull := by cases bv <;> rfl
    have f6 : (if bv = true then t1 else { t1 with plain := false }).finger = t1.finger := by cases bv <;> rfl
    generalize (if bv = true then t1 else { t1 with plain := false }) = t2 at f1 f2 f3 f4 f5 f6 ⊢
    have hin : (SetTable.insertAt es (SetTable.below t.place (way t.mask (thash P w k) K)) (thash P w k, Value.ref x)).toList = rowsOf P w (L.take (SetTable.below t.place (way t.mask (thash P w k) K)) ++ (x, k) :: L.drop (SetTable.below t.place (way t.mask (thash P w k) K))) := by
      rw [SetTable.toList_insertAt, rows_put, R.rows]
    generalize hpp : SetTable.below t.place (way t.mask (thash P w k) K) = p at q2 q3 hin ⊢
    have pm := put_perm L p (x, k)
    have hlen : (L.take p ++ (x, k) :: L.drop p).length = L.length + 1 := pm.length_eq
    have hhs : (L.take p ++ (x, k) :: L.drop p).map (fun p => thash P w p.2) = (L.map fun p => thash P w p.2).take p ++ thash P w k :: (L.map fun p => thash P w p.2).drop p := by
      rw [List.map_append, List.map_cons, List.map_take, List.map_drop]
    rw [← hhs] at q3
    have nd1 : ((L.take p ++ (x, k) :: L.drop p).map (·.2)).Nodup := by
      refine (pm.map (·.2)).nodup_iff.mpr ?_
      rw [List.map_cons]
      exact List.nodup_cons.mpr ⟨hm, R.nd⟩
    have hes : (SetTable.insertAt es p (thash P w k, Value.ref x)).size = L.length + 1 := by
      have h := congrArg List.length hin
      unfold rowsOf at h
      rw [Array.length_toList, List.length_map, hlen] at h
      exact h
    generalize SetTable.insertAt es p (thash P w k, Value.ref x) = es1 at hin hes ⊢
    generalize L.take p ++ (x, k) :: L.drop p = L1 at pm hlen q3 nd1 hin
    refine wpAny_bind (wpAny_storeSet_of ho hd ?_ (by rw [hes, sizeLine_eq]; omega))
    have sb : Heap.SameBut a s.heap (s.heap.update a (Obj.putSet es1 t2)) := Heap.SameBut.update ..
    have ho1 := store_at (es' := es1) (t' := t2) ho hd
    generalize s.heap.update a (Obj.putSet es1 t2) = h1 at sb ho1 ⊢
    have tup1 : ∀ p ∈ L1, IsT P w h1 p.2 p.1 := fun p hp => by
      rcases List.mem_cons.mp (pm.mem_iff.mp hp) with e | hp
      · rw [e]; exact isT_same hx ho hd sb
      · exact isT_same (R.tup p hp) ho hd sb
    have ld1 : w.params.followText "set-order" = true ∨ t2.led = true := by rw [f4, q5]; exact R.led
    have q3 := tabOk_cong q3 f1 f2 f3
    by_cases hf : t2.tooFull = true
    · first
        | (refine wpAny_bind ?_; refine wp_if_pos (by simp [hf]) ?_)
        | (refine wp_if_pos (by simp [hf]) ?_; refine wpAny_bind ?_)
      have hfull : (L.length + 1) * 5 ≥ t1.mask * 3 := by
        have h := hf
        rw [f5] at h
        unfold SetTable.tooFull at h
        rw [decide_eq_true_eq, q9, List.length_map] at h
        exact h
      rw [hsl]
      have hsz1 : t2.place.size = es1.size := by
        have h := q3.sz
        rw [List.length_map, hlen] at h
        rw [h, hes]
      have cases2 : (t.mask = 7 ∧ L.length = 4) ∨ (t.mask = 31 ∧ L.length = 18) := by
        rcases R.tab.mok with e | e | e
        · left; rw [q4, e] at hfull; rw [e] at hroom; exact ⟨e, by omega⟩
        · right; rw [q4, e] at hfull; rw [e] at hroom; exact ⟨e, by omega⟩
        · exfalso; rw [q4, e] at hfull; omega
      have go : ∀ M, SetTable.sizeAbove (SetTable.grown (L.length + 1)) - 1 = M → MaskOk M → SetTable.sizeAbove (SetTable.grown (L.length + 1)) ≤ 128 → (L.length + 1) * 5 < M * 3 →
          wpAny (model P w) A (setRelay a (SetTable.grown (L.length + 1))) (fun _ s' => wpAny (model P w) A (pure true) Q E s') E { s with heap := h1 } := fun M h1' h2' h3' h4' => by
        refine relay_at (s := { s with heap := h1 }) ho1 ⟨hex.1, hex.2.1, hex.2.2⟩ rfl hin hsz1 q3.dm (by rw [hes, f2, q4]; rcases cases2 with ⟨e, e2⟩ | ⟨e, e2⟩ <;> omega) nd1 tup1 ld1 (by rw [hlen]; exact hfew) h1' h2' h3' (by rw [hlen]; exact h4') ?_
        intro h2 L2 es2 ep2 t2 sb2 R2 pm2
        refine wpAny_pure (hQ true h2 L2 es2 ep2 t2 (sb.trans sb2) R2 (fun z => absurd z hm) fun _ => pm2.trans pm)
      rcases cases2 with ⟨_, e2⟩ | ⟨_, e2⟩
      · refine go 31 (by rw [e2, size_20]) (.inr (.inl rfl)) (by rw [e2, size_20]; decide) (by omega)
      · refine go 127 (by rw [e2, size_76]) (.inr (.inr rfl)) (by rw [e2, size_76]; decide) (by omega)
    · first
        | refine wp_if_neg (by simp [hf]) ?_
        | (refine wpAny_bind ?_; refine wp_if_neg (by simp [hf]) ?_; refine wpAny_pure ?_)
      refine wpAny_pure (hQ true h1 L1 es1 (ep + 1) t2 sb ⟨⟨_, ho1, ⟨hex.1, hex.2.1, hex.2.2⟩, rfl⟩, hin, q3, nd1, tup1, ld1, ?_, by rw [hlen]; exact hfew⟩ (fun z => absurd z hm) fun _ => pm)
      have h := hf
      rw [f5] at h
      unfold SetTable.tooFull at h
      rw [decide_eq_true_eq, q9, List.length_map] at h
      rw [hlen, f2]
      omega
end

section
variable {P : Program} {w : World} {A : Around} {E : Value → Shared → Prop} {s : Shared}
theorem isT_keep {h h' : Heap} {k : List Str} {b : Addr} (x : IsT P w h k b) (hk : ∀ c o, h.get? c = some o → h'.get? c = some o) : IsT P w h' k b := by
  obtain ⟨o, items, n, ho, r⟩ := x
  exact ⟨o, items, n, hk b o ho, r⟩
theorem SetTR.keep {h h' : Heap} {a : Addr} {L : List (Addr × List Str)} {es : Array (Int × Value)} {ep : Nat} {t : SetTable} (R : SetTR P w h a L es ep t) (ha : ∀ o, h.get? a = some o → h'.get? a = some o) (ht : ∀ p ∈ L, IsT P w h' p.2 p.1) : SetTR P w h' a L es ep t := by
  obtain ⟨o, ho, r⟩ := R.ob
  exact ⟨⟨o, ha o ho, r⟩, R.rows, R.tab, R.nd, ht, R.led, R.room, R.few⟩
/-- a new set -/
theorem setTR_fresh {h : Heap} {a : Addr} (ho : h.get? a = some { cls := .type "set", dict := none, data := .set #[] 0 (.fresh 0 0 (!w.params.followText "set-order")) }) : SetTR P w h a [] #[] 0 (.fresh 0 0 (!w.params.followText "set-order")) where
  ob := ⟨_, ho, ⟨rfl, rfl, rfl⟩, rfl⟩
  rows := rfl
  tab := ⟨List.Pairwise.nil, rfl, rfl, .inl rfl, fun x hx => (by cases hx), fun i h j hi => (by simp at hi)⟩
  nd := List.nodup_nil
  tup := fun p hp => (by cases hp)
  led := by
    show _ ∨ (!w.params.followText "set-order") = true
    cases w.params.followText "set-order"
    · exact .inr rfl
    · exact .inl rfl
  room := by
    show 0 * 5 < 7 * 3
    decide
  few := by
    show 0 < 64
    decide
end
structure SetT0 (P : Program) (w : World) (h : Heap) (a : Addr) (L : List (Addr × List Str)) : Prop where
  ex : ∃ (es : Array (Int × Value)) (ep : Nat) (t : SetTable), (∃ o, h.get? a = some o ∧ o.ExactSet ∧ o.data = .set es ep t) ∧ es.toList = rowsOf P w L ∧ TabOk t (L.map fun p => thash P w p.2) ∧ (L.map (·.2)).Nodup ∧
    (w.params.followText "set-order" = true ∨ t.led = true) ∧ L.length * 5 < t.mask * 3 ∧ L.length < 64
def SetTO (P : Program) (w : World) (a : Addr) (L : List (Addr × List Str)) : HO := .ext fun h => SetT0 P w h a L
theorem SetTR.t0 {P : Program} {w : World} {h : Heap} {a : Addr} {L : List (Addr × List Str)} {es : Array (Int × Value)} {ep : Nat} {t : SetTable} (R : SetTR P w h a L es ep t) : SetT0 P w h a L :=
  ⟨es, ep, t, R.ob, R.rows, R.tab, R.nd, R.led, R.room, R.few⟩
theorem SetT0.full {P : Program} {w : World} {h : Heap} {a : Addr} {L : List (Addr × List Str)} (R : SetT0 P w h a L) (ht : ∀ p ∈ L, IsT P w h p.2 p.1) : ∃ es ep t, SetTR P w h a L es ep t := by
  obtain ⟨es, ep, t, h1, h2, h3, h4, h6, h7, h8⟩ := R.ex
  exact ⟨es, ep, t, h1, h2, h3, h4, ht, h6, h7, h8⟩
theorem setTO_new {P : Program} {w : World} {H : Hp} {h : Heap} {a : Addr} {L : List (Addr × List Str)} (R : SetT0 P w h a L) : ObjOk P w H h a (SetTO P w a L) := by
  have ⟨es, ep, t, ⟨o, ho, r⟩, q⟩ := R.ex
  refine ⟨R, ⟨o, ho⟩, fun h1 h2 p k => ?_⟩
  have ⟨es', ep', t', ⟨o', ho', r'⟩, q'⟩ := SetT0.ex p
  exact ⟨es', ep', t', ⟨o', k o' ho', r'⟩, q'⟩
theorem items_of_vals {P : Program} {w : World} : ∀ {k : List Str} {us : List Value}, Vals (k.map V.str) us → ItemsAre (strKind P w) k us
  | [], _, .nil => .nil
  | n :: k, _, .cons r t => by
    obtain ⟨tk, rfl⟩ := r
    exact .cons (strKind_is P w n tk) (items_of_vals t)
end SH.TSS
/-! R9 -/
set_option Elab.async false
set_option linter.all false
set_option maxRecDepth 100000
set_option maxHeartbeats 4000000
/-! {e for ..}, e a tuple of texts (the steps of HandS.SetBool's comprehension; printed by mk9.py). -/
namespace SH
open PySem PySem.Spec PyProof.Rows L2 PpSet
section
variable {X : Cx}
theorem set_items {P : Program} {w : World} : ∀ {k : List Str} {us : List Value}, Vals (k.map V.str) us → ItemsAre (strKind P w) k us
  | [], _, .nil => .nil
  | n :: k, _, .cons r t => by
    obtain ⟨tk, rfl⟩ := r
    exact .cons (strKind_is P w n tk) (set_items t)
theorem inv_isT {pins : List (Addr × Obj)} {σ : L2.St} {H : Hp} {s : Shared} {b : Addr} {k : List Str} (I : Inv X pins σ H s) (h : SqT X.K H b (k.map V.str)) : TSS.IsT X.prog X.w s.heap k b := by
  obtain ⟨its, r, ⟨o, ho, hc, n, hd⟩, _⟩ := I.tuple h
  exact ⟨o, its.toArray, n, ho, hc, hd, by simpa using set_items r⟩
theorem addT_ok {pins : List (Addr × Obj)} {σ : L2.St} {H : Hp} {s : Shared} {E : Value → Shared → Prop} {D x : Addr} {L : List (Addr × List Str)} {k : List Str} {Q : Value → Shared → Prop} (I : Inv X pins σ H s) (hu : X.A.units + 8 < cLine) (hD : H D = some (TSS.SetTO X.prog X.w D L))
    (hL : ∀ p ∈ L, SqT X.K H p.1 (p.2.map V.str)) (hx : SqT X.K H x (k.map V.str)) (hfew : L.length + 1 < 64)
    (h : ∀ L' s', (k ∈ L.map (·.2) → L' = L) → (k ∉ L.map (·.2) → L'.Perm ((x, k) :: L)) → Inv X pins σ (upd H D (TSS.SetTO X.prog X.w D L')) s' → Q .none s') : wpAny (model X.prog X.w) X.A (call (.builtin "set.add") [.ref D, .ref x]) Q E s := by
  have R0 : TSS.SetT0 X.prog X.w s.heap D L := (I.hok D _ hD).1
  obtain ⟨es, ep, t, R⟩ := R0.full fun p hp => inv_isT I (hL p hp)
  have hxT := inv_isT I hx
  obtain ⟨o, ho, hex, hd⟩ := R.ob
  refine wpAny_call_entry F.slot_set_add ⟨o, ho, hex.1⟩ F.entry_set_add ?_ (F.args_set_add_2 _ _)
  unfold Builtin.«set.add» Builtin.Frozenset.oneOther
  simp only [List.isEmpty_nil, bind_assoc]
  unfold Builtin.Frozenset.addrOf setAdd
  refine wpAny_bind (wpAny_pure ?_)
  try dsimp only
  refine wpAny_bind (wpAny_pure ?_)
  try dsimp only
  refine wpAny_bind ?_
  refine wpAny_holding ?_
  have hu1 : X.A.in1.units < cLine := by show X.A.units + 1 < cLine; omega
  refine wpAny_bind (wpAny_pyHash_tuple hu1 hxT ?_)
  refine TSS.add_at (s := { s with toks := s.toks + (k.length + 1) }) R hxT hu1 hfew fun b h' L' es' ep' t' sb R' c1 c2 => ?_
  show wpAny _ _ (ret Value.none) _ _ _
  have he : ∃ u, h'.get? D = some u := by
    obtain ⟨o', ho', _⟩ := R'.ob
    exact ⟨o', ho'⟩
  exact wpAny_pure ⟨_, rfl, h L' _ c1 c2 (I.write (e := D) (t' := s.toks + (k.length + 1)) (by rw [hD]; trivial) (.inl rfl) (fun b u hb hu => (sb.2 b hb).trans hu) he (TSS.setTO_new R'.t0))⟩
/-- {elt for target in iter if ..}, elt a tuple of texts: D the new set -/
def tScT (X : Cx) (wi : TI) (g : TG) (tt : TT) (te : TE) (vs : List Nat) : TE := fun σ H Q => wi σ H fun J H1 => ∀ D, H1 D = none → ∃ W : Nat → Nat → Hp → Prop, (∃ m, W 0 m (upd H1 D (TSS.SetTO X.prog X.w D []))) ∧ ∀ i m H, W i m H →
  (J.stop i H ∧ Q (.ref D) H) ∨ (J.go i H ∧ ∃ Nx : Hp → Prop, (∀ H', Nx H' → ∃ m', m' < m ∧ W (i + 1) m' H') ∧ ∀ x H', J.yld i H x H' → g x (wipe σ vs) H' fun σ2 H2 => wipe σ2 vs = wipe σ vs ∧ tt σ2 H2 fun b H3 =>
    if b = true then te σ2 H3 fun y H4 => ∃ (tp : Addr) (ks : List Str) (L : List (Addr × List Str)), y = .ref tp ∧ H4 D = some (TSS.SetTO X.prog X.w D L) ∧ SqT X.K H4 tp (ks.map V.str) ∧ (∀ p ∈ L, SqT X.K H4 p.1 (p.2.map V.str)) ∧ L.length + 1 < 64 ∧
      ∀ L', (ks ∈ L.map (·.2) → L' = L) → (ks ∉ L.map (·.2) → L'.Perm ((tp, ks) :: L)) → Nx (upd H4 D (TSS.SetTO X.prog X.w D L')) else Nx H3)
theorem scT_core {pins : List (Addr × Obj)} {s : Shared} {σ : L2.St} {H : Hp} {Q : VK} {elt tg iter : Expr} {ifs : List Expr} {scope : Scope} {own : List (PySem.Str × Nat)} {pos pos' : Pos} {wi : TI} {g : TG} {tt : TT} {te : TE} {use : Option (Value → Sem Unit)} {Qf : Value → Shared → Prop}
    (hc : X.calm = true) (hu : X.A.units + 8 < cLine) (hN : X.N.Nodup) (I : Inv X pins σ H s) (hi : PI X tg iter wi) (ok : BlkOk X.N X.env.scope scope own)
    (hg : ∀ (s : Shared) (H : Hp) (C : Addr) (cl : List (PySem.Str × Addr)) (fp : List Addr), PG (X.blk s H scope (compEnvC scope cl C X.env) fp) tg g) (ht : ∀ (s : Shared) (H : Hp) (C : Addr) (cl : List (PySem.Str × Addr)) (fp : List Addr), PTs (X.blk s H scope (compEnvC scope cl C X.env) fp) ifs tt)
    (he : ∀ (s : Shared) (H : Hp) (C : Addr) (cl : List (PySem.Str × Addr)) (fp : List Addr), PE (X.blk s H scope (compEnvC scope cl C X.env) fp) elt te) (hs : ∀ x, foldedSetIterable iter X.env x = pure x)
    (h : tScT X wi g tt te (own.map (·.2)) σ H Q)
    (hRR : ∀ D C s' m H', Inv X pins σ H' s' → Q (.ref D) H' → s'.heap.Ns C m → FpOk X pins H' C → compPost (model X.prog X.w) X.A X.xe use Qf (.ref D) C (.ok .next) s') :
    wpAny (model X.prog X.w) X.A (comprehension (.SetComp elt [⟨tg, iter, ifs, 0⟩] scope pos) scope X.env pos' (newSet (.type "set")) false (eval iter X.env) use) Qf X.xe s := by
  have hfree : ∀ y ∈ scope.names, y.2 = .free → ∃ c, X.env.cells.lookup y.1 = some c := fun y hy e => by
    rcases ok.free y hy e with k | k
    · exact I.ok.has _ (.inl k)
    · exact I.ok.has _ (.inr k)
  refine wpAny_comprehension_free (use := use) rfl hs (closure_ok hfree) ok.kind (fun y hy e => by rw [ok.uniq y hy, e])
    (thn (hi.run pins s σ H _ I h) fun xv s1 hx => thn hx fun itv s2 h2 => ?_)
  obtain ⟨it, fp, tn, J, H2, e, I2, T, st2, f2, q⟩ := h2
  subst e
  refine newSet_ok (newEnv_comp ?_)
  generalize hD : s2.heap.objs.size = D
  have hDn : H2 D = none := I2.hok.fresh (Nat.le_of_eq hD)
  obtain ⟨W, ⟨m0, w0⟩, turn⟩ := q D hDn
  -- the new list
  generalize hs3 : ({ s2 with heap := s2.heap.push { cls := .type "set", dict := none, data := .set #[] 0 (.fresh 0 0 (!X.w.params.followText "set-order")) } } : Shared) = s3
  have I3 : Inv X pins σ (upd H2 D (TSS.SetTO X.prog X.w D [])) s3 := by
    rw [← hs3]
    refine I2.laid (t' := s2.toks) (fun b o e => Heap.get?_push_of_some _ e) (Nat.le_of_eq hD) ?_
    rw [← hD]
    exact TSS.setTO_new (TSS.setTR_fresh (Heap.get?_push_size _ rfl)).t0
  have h3 : s3.heap = s2.heap.push { cls := .type "set", dict := none, data := .set #[] 0 (.fresh 0 0 (!X.w.params.followText "set-order")) } := by rw [← hs3]
  have sz : ∀ b ∈ fp, b < s2.heap.objs.size := fun b hb => by
    obtain ⟨o, e, _⟩ := T.obj _ _ st2 b hb
    exact Heap.lt_size e
  have f3 : ∀ b ∈ fp, FpOk X pins (upd H2 D (TSS.SetTO X.prog X.w D [])) b ∧ b < s3.heap.objs.size := fun b hb => by
    have hlt := sz b hb
    refine ⟨⟨?_, (f2 b hb).2⟩, by rw [h3, Heap.size_push]; exact Nat.lt_succ_of_lt hlt⟩
    rw [upd_ne (by rw [← hD]; exact Nat.ne_of_lt hlt)]
    exact (f2 b hb).1
  have st3 : tn 0 s3.heap := T.keep _ _ _ st2 fun b _ o e => by rw [h3]; exact Heap.get?_push_of_some _ e
  have I4 := block_start I3 ok hN f3
  have pg := hg s3 (upd H2 D (TSS.SetTO X.prog X.w D [])) s3.heap.objs.size (cellsFrom (s3.heap.objs.size + 1) scope.names (cloFrom X.env.cells scope.names [])) fp
  have pt := ht s3 (upd H2 D (TSS.SetTO X.prog X.w D [])) s3.heap.objs.size (cellsFrom (s3.heap.objs.size + 1) scope.names (cloFrom X.env.cells scope.names [])) fp
  have pe := he s3 (upd H2 D (TSS.SetTO X.prog X.w D [])) s3.heap.objs.size (cellsFrom (s3.heap.objs.size + 1) scope.names (cloFrom X.env.cells scope.names [])) fp
  show codeAny _ _ (.compStart (.SetComp elt [⟨tg, iter, ifs, 0⟩] scope pos) 0 (.ref it) (.ref D) (compEnvC scope (cellsFrom (s3.heap.objs.size + 1) scope.names (cloFrom X.env.cells scope.names [])) s3.heap.objs.size X.env)) (compPost (model X.prog X.w) X.A X.xe use Qf (.ref D) s3.heap.objs.size) { s3 with heap := pushCells (s3.heap.push { cls := .type "dict", data := .dict #[] }) scope.names }
  have nfp : ∀ b ∈ fp, (upd H2 D (TSS.SetTO X.prog X.w D [])) b = none := fun b hb => (f3 b hb).1.1
  generalize hce : compEnvC scope (cellsFrom (s3.heap.objs.size + 1) scope.names (cloFrom X.env.cells scope.names [])) s3.heap.objs.size X.env = ce at I4 pg pt pe ⊢
  have cL : ce.locals = s3.heap.objs.size := by subst hce; rfl
  generalize hH3 : upd H2 D (TSS.SetTO X.prog X.w D []) = H3 at I3 I4 pg pt pe w0 nfp f3
  generalize hs4 : ({ s3 with heap := pushCells (s3.heap.push { cls := .type "dict", data := .dict #[] }) scope.names } : Shared) = s4 at I4 ⊢
  have st4 : tn 0 s4.heap := T.keep _ _ _ st3 fun b _ o e => by rw [← hs4]; exact pushCells_keeps _ _ _ _ (Heap.get?_push_of_some _ e)
  have stat : ∀ {σ' : L2.St} {H' : Hp} {s' : Shared}, Inv (X.blk s3 H3 scope ce fp) [] σ' H' s' → (∀ b ∈ fp, H' b = none) → ∀ b ∈ fp, FpOk (X.blk s3 H3 scope ce fp) [] H' b := fun {σ' H' s'} I' hn b hb =>
    ⟨hn b hb, (I'.ok.exf b hb).1, I'.ok.exfs b hb, .inl hb, fun x c e => (I'.ok.exf b hb).2 x c e, fun p hp => absurd (show p ∈ ([] : List (Addr × Obj)) ++ [] from hp) (by simp)⟩
  have loop : codeAny (model X.prog X.w) X.A (.compLoop (.SetComp elt [⟨tg, iter, ifs, 0⟩] scope pos) 0 (.ref it) (.ref D) ce) (compPost (model X.prog X.w) X.A X.xe use Qf (.ref D) s3.heap.objs.size) s4 := by
    refine compLoopS_any (fun n s' => ∃ i H', Inv (X.blk s3 H3 scope ce fp) [] (wipe σ (own.map (·.2))) H' s' ∧ tn i s'.heap ∧ (∀ b ∈ fp, H' b = none) ∧ W i n H') ?_ m0 ⟨0, H3, I4, st4, nfp, w0⟩
    rintro n s5 ⟨i, H5, I5, st5, n5, w5⟩
    rcases turn i n H5 w5 with ⟨stop, qq⟩ | ⟨go, Nx, hNx, step⟩
    · have td := T.done (X.blk s3 H3 scope ce fp) rfl rfl rfl hc i [] s5 _ H5 (fun _ _ => False) I5 (stat I5 n5) st5 stop
      refine thnF td fun r s6 ⟨hr, I6⟩ => ?_
      subst hr
      -- back in the def's context
      have I7 : Inv X pins σ H5 s6 := I3.call' (ch := fp) I6.os I6.base I6.hok I6.bare fun b hb => ⟨(f3 b hb).1.2.2.2.1, (f3 b hb).1.2.1, (f3 b hb).1.2.2.2.2.1, (f3 b hb).1.2.2.2.2.2⟩
      have nC : H5 s3.heap.objs.size = none := by
        have z : H5 ce.locals = none := I6.free
        rw [cL] at z
        exact z
      obtain ⟨m, hn, _⟩ := I6.loc
      have hn : s6.heap.Ns ce.locals m := hn
      rw [cL] at hn
      exact hRR D s3.heap.objs.size s6 m H5 I7 qq hn (I3.fpOk (Nat.le_refl _) nC)
    · have ti := T.item (X.blk s3 H3 scope ce fp) rfl rfl rfl hc i [] s5 _ H5 (fun _ _ => False) I5 (stat I5 n5) st5 go
      refine thnF ti fun r s6 ⟨u, hr, h6⟩ => ?_
      subst hr
      refine thnF h6 fun _ s7 ⟨x, H7, I7, r7, y7, st7, n7⟩ => ?_
      have I7' := I7.pinned (stat I7 n7) (T.obj _ _ st7)
      refine thnF (pg.run _ s7 _ H7 x u _ I7' r7 (step x H7 y7)) fun _ s8 ⟨σ8, H8, I8, hw8, q8⟩ => ?_
      refine thnF (pt.run _ s8 σ8 H8 _ I8 q8) fun b s9 ⟨H9, I9, q9⟩ => ?_
      -- the turn's end
      have fin : ∀ {s' : Shared} {H' : Hp}, Inv (X.blk s3 H3 scope ce fp) ([] ++ pinsAt fp s7.heap) σ8 H' s' → Nx H' → ∃ m, m < n ∧ ∃ i H', Inv (X.blk s3 H3 scope ce fp) [] (wipe σ (own.map (·.2))) H' s' ∧ tn i s'.heap ∧ (∀ b ∈ fp, H' b = none) ∧ W i m H' := fun {s' H'} I' nx => by
        obtain ⟨m', hm, w'⟩ := hNx H' nx
        have pin' : ∀ b ∈ fp, ∀ o, s7.heap.get? b = some o → s'.heap.get? b = some o ∧ H' b = none := fun b hb o e =>
          let z := I'.pin (b, o) (List.mem_append_right _ (List.mem_append_right _ (mem_pinsAt hb e)))
          ⟨z.1, z.2.1⟩
        have hl : (wipe σ (own.map (·.2))).length = σ8.length := by rw [← hw8, wipe_length]
        refine ⟨m', hm, i + 1, H', (I'.unpinned (pins := [])).weak hl (fun j v e => ?_), T.keep _ _ _ st7 fun b hb o e => (pin' b hb o e).1, fun b hb => ?_, w'⟩
        · rw [← hw8] at e
          exact (wipe_some e).1
        · obtain ⟨o, e, _⟩ := T.obj _ _ st7 b hb
          exact (pin' b hb o e).2
      cases b with
      | false =>
        simp only [Bool.false_eq_true, if_false] at q9 ⊢
        exact fin I9 q9
      | true =>
        simp only [if_true] at q9 ⊢
        refine thnF (pe.run _ s9 σ8 H9 _ I9 q9) fun z s10 ⟨yv, H10, I10, r10, tp, ks, L0, ey, hD10, htp, htL, hz10, nx⟩ => ?_
        subst ey
        obtain rfl : z = Value.ref tp := r10
        exact addT_ok (X := X.blk s3 H3 scope ce fp) I10 hu hD10 htL htp hz10 fun L1 s11 c1 c2 I11 => fin I11 (nx L1 c1 c2)
  exact codeAny_compStart_set loop (T.self X.A 0 _ _ _ st4 loop)
/-- as a value -/
theorem pe_scT {elt tg iter : Expr} {ifs : List Expr} {scope : Scope} {own : List (PySem.Str × Nat)} {pos : Pos} {wi : TI} {g : TG} {tt : TT} {te : TE} (hc : X.calm = true) (hu : X.A.units + 8 < cLine) (hN : X.N.Nodup) (hi : PI X tg iter wi) (ok : BlkOk X.N X.env.scope scope own)
    (hg : ∀ (s : Shared) (H : Hp) (C : Addr) (cl : List (PySem.Str × Addr)) (fp : List Addr), PG (X.blk s H scope (compEnvC scope cl C X.env) fp) tg g) (ht : ∀ (s : Shared) (H : Hp) (C : Addr) (cl : List (PySem.Str × Addr)) (fp : List Addr), PTs (X.blk s H scope (compEnvC scope cl C X.env) fp) ifs tt)
    (he : ∀ (s : Shared) (H : Hp) (C : Addr) (cl : List (PySem.Str × Addr)) (fp : List Addr), PE (X.blk s H scope (compEnvC scope cl C X.env) fp) elt te) (hs : ∀ x, foldedSetIterable iter X.env x = pure x := by intro _; rfl) :
    PE X (.SetComp elt [⟨tg, iter, ifs, 0⟩] scope pos) (tScT X wi g tt te (own.map (·.2))) := by
  refine ⟨fun pins s σ H Q I h => ?_⟩
  rw [eval_SetComp]
  refine scT_core hc hu hN I hi ok hg ht he hs h fun D C s' m H' I' q hn f => ⟨m, hn, fun h'' sb => ?_⟩
  obtain ⟨f0, f1, f2, f3, f4, f5⟩ := f
  exact ⟨.ref D, H', I'.turned (t' := s'.toks) (fun b o hb e => (sb.2 b hb).trans e) f0 f1 f3 f4 f5, rfl, q⟩
end
end SH
/-! R10 -/
set_option Elab.async false
set_option linter.all false
set_option maxRecDepth 100000
set_option maxHeartbeats 4000000
/-! set(list of different texts), its len, its sorted; sorted(set of pairs of texts) (the steps of HandS.TupSets; printed by mk10.py). -/
namespace SH
open PySem PySem.Spec PyProof.Rows L2
open PySem.Froz (TxOk sObj addTx tailTx)
/-- the set at a of the texts l -/
def SetXR (P : Program) (w : World) (h : Heap) (a : Addr) (l : List Str) : Prop := ∃ (D : PySem.Froz.SD) (l' : List Str), l'.Perm l ∧ h.get? a = some (sObj "set" D) ∧ TxOk P w D l' ∧ Ris D.2.2.place.toList ∧ (w.params.followText "set-order" = true ∨ D.2.2.led = true)
theorem SetXR.at {P : Program} {w : World} {h h' : Heap} {a : Addr} {l : List Str} (R : SetXR P w h a l) (k : ∀ o, h.get? a = some o → h'.get? a = some o) : SetXR P w h' a l := by
  obtain ⟨D, l', p, e, r⟩ := R
  exact ⟨D, l', p, k _ e, r⟩
theorem addTx_ris {h : Int} {v : Value} {D : PySem.Froz.SD} (r : Ris D.2.2.place.toList) : Ris (addTx h v D).2.2.place.toList := by
  unfold addTx
  have r1 := layNew_ris D.2.2 D.1 h v r
  generalize hL : layNew D.2.2 D.1 h v = L at r1 ⊢
  have r2 : Ris (if L.2.1.plain = true then { L.2.1 with plain := false } else L.2.1).place.toList := by split <;> exact r1
  generalize (if L.2.1.plain = true then { L.2.1 with plain := false } else L.2.1) = t2 at r2 ⊢
  unfold tailTx
  split
  · exact relayAll_ris _ _ _
  · exact r2
theorem addTx_led {h : Int} {v : Value} {D : PySem.Froz.SD} : (addTx h v D).2.2.led = D.2.2.led := by
  unfold addTx
  have r1 := layNew_led D.2.2 D.1 h v
  generalize hL : layNew D.2.2 D.1 h v = L at r1 ⊢
  have r2 : (if L.2.1.plain = true then { L.2.1 with plain := false } else L.2.1).led = D.2.2.led := by split <;> exact r1
  generalize (if L.2.1.plain = true then { L.2.1 with plain := false } else L.2.1) = t2 at r2 ⊢
  unfold tailTx
  split
  · exact (relayAll_led _ _ _).trans r2
  · exact r2
section
variable {P : Program} {w : World} {A : Around} {E : Value → Shared → Prop} {s : Shared}
theorem SetXR.add {a : Addr} {l : List Str} {k : Str} {u : Tok} {Q : Bool → Shared → Prop} (R : SetXR P w s.heap a l) (hk : k ∉ l) (hb : l.length < 64)
    (h : ∀ h', Heap.SameBut a s.heap h' → SetXR P w h' a (l ++ [k]) → Q true { s with heap := h' }) : wpAny (model P w) A (setAddHashed a (.str k u) (hashStr w k)) Q E s := by
  obtain ⟨D, l', p, ho, F, r, ld⟩ := R
  refine PySem.Froz.add_x ho F (fun z => hk (p.mem_iff.mp z)) (by rw [p.length_eq]; unfold scanBound; omega) (h _ (Heap.SameBut.update ..) ⟨_, k :: l', ?_, PySem.Froz.get_upd _ ho rfl, PySem.Froz.add_ok u F, addTx_ris r, ?_⟩)
  · exact (p.cons k).trans (List.perm_append_singleton k l).symm
  · rw [addTx_led]; exact ld
theorem setXR_fresh {h : Heap} {a : Addr} (ho : h.get? a = some { cls := .type "set", dict := none, data := .set #[] 0 (.fresh 0 0 (!w.params.followText "set-order")) }) : SetXR P w h a [] :=
  ⟨(#[], 0, .fresh 0 0 (!w.params.followText "set-order")), [], List.Perm.refl _, ho, TxOk.nil rfl, List.Pairwise.nil, by
    show _ ∨ (!w.params.followText "set-order") = true
    cases w.params.followText "set-order"
    · exact .inr rfl
    · exact .inl rfl⟩
theorem set_update_txts {I : Addr} {fp wr : List Addr} {G : Array GenState → Array GenState → Prop} {n : Nat} {Pv : Nat → Value → Prop} {St : Nat → Shared → Prop} {R : Result → Shared → Prop}
    (W : WalksS P w A.in1 I fp wr G n Pv St) (S : Addr) (hSf : S ∉ fp) (ks : List Str) (hn : n = ks.length) (hfew : ks.length < 64) (hval : ∀ i v, Pv i v → ∃ p u, ks[i]? = some p ∧ v = .str p u) (hnd : ks.Nodup)
    (h0 : Heap) (hS0 : h0.get? S = none) (hw0 : ∀ b ∈ wr, h0.get? b = none) (hu : A.in1.units < cLine) :
    ∀ (k i : Nat) (s : Shared), n - i = k → i ≤ n → St i s → (∀ b o, h0.get? b = some o → s.heap.get? b = some o) → SetXR P w s.heap S (ks.take i) →
      (∀ s', Moved (S :: wr) G s s' → SetXR P w s'.heap S ks → (∀ b o, h0.get? b = some o → s'.heap.get? b = some o) → R (.ok (.ret .none)) s') →
      codeAny (model P w) A (.builtin "set.update.loop" ⟨[.ref S, .ref I], []⟩) R s := by
  have hSw : S ∉ wr := fun h => hSf (W.sub _ h)
  have hsub : ∀ b ∈ wr, b ∈ S :: wr := fun b hb => List.mem_cons_of_mem _ hb
  have keepM : ∀ {s s' : Shared}, Moved wr G s s' → (∀ b o, h0.get? b = some o → s.heap.get? b = some o) → ∀ b o, h0.get? b = some o → s'.heap.get? b = some o := fun hm hkp b o e =>
    hm.heap b o (fun hb => by rw [hw0 b hb] at e; cases e) (hkp b o e)
  intro k
  induction k with
  | zero =>
    intro i s hk' hi hst hkp hS hR
    have hin : i = n := by omega
    subst hin
    refine codeAny_builtin F.entry_set_update_loop ?_
    rw [Around.under_plainId F.plain_set_update_loop _]
    show wpAny _ A.in1 (pyNext (.ref I) >>= _) _ _ s
    refine wpAny_bind (W.done s _ _ hst fun s' hm => ?_)
    show wpAny _ A.in1 (ret Value.none) _ _ s'
    have hkp' := keepM hm hkp
    have hS1 : SetXR P w s'.heap S (ks.take i) := hS.at fun o e => hm.heap S o hSw e
    rw [hn, List.take_length] at hS1
    exact wpAny_pure (hR s' (hm.mono hsub) hS1 hkp')
  | succ k ih =>
    intro i s hk' hi hst hkp hS hR
    have hlt : i < n := by omega
    refine codeAny_builtin F.entry_set_update_loop ?_
    rw [Around.under_plainId F.plain_set_update_loop _]
    show wpAny _ A.in1 (pyNext (.ref I) >>= _) _ _ s
    refine wpAny_bind (W.item i s _ _ hlt hst fun v s' hP hst' hm => ?_)
    obtain ⟨p, u, hp, rfl⟩ := hval i v hP
    have hkp' := keepM hm hkp
    have hS1 : SetXR P w s'.heap S (ks.take i) := hS.at fun o e => hm.heap S o hSw e
    have hlk : i < ks.length := by omega
    have hnew : p ∉ ks.take i := fun z => by
      have hpi : ks[i] = p := by rw [List.getElem?_eq_getElem hlk] at hp; exact Option.some.inj hp
      obtain ⟨j, hj, e⟩ := List.mem_iff_getElem.mp z
      rw [List.length_take] at hj
      rw [List.getElem_take] at e
      have := (List.getElem_inj (h₀ := by omega) (h₁ := hlk) hnd).mp (e.trans hpi.symm)
      omega
    show wpAny _ A.in1 (holding [Value.str p u] (setAdd S (.str p u)) >>= _) _ _ s'
    refine wpAny_bind (wpAny_holding ?_)
    unfold setAdd
    refine wpAny_holding ?_
    refine wpAny_bind ((strKind P w).pyHash (PySem.Froz.is_str p u) ?_)
    refine hS1.add (s := { s' with toks := s'.toks + 1 }) (u := u) hnew (by rw [List.length_take]; omega) fun h' hsb hS2 => ?_
    rw [← take_next hp] at hS2
    have hkp2 : ∀ b o, h0.get? b = some o → h'.get? b = some o := fun b o e => (hsb.2 b (fun z => by rw [z, hS0] at e; cases e)).trans (hkp' b o e)
    refine wpAny_pure ⟨plainId_quiet F.plain_set_update_loop _, ih (i + 1) _ (by omega) hlt (W.frame _ s' _ _ hst' (Nat.le_add_right _ _) fun b hb o e => ?_) hkp2 hS2 fun s'' hm'' hS'' hkp'' => ?_⟩
    · rw [hsb.2 b (fun h : b = S => hSf (by rw [← h]; exact hb))]; exact e
    · refine hR s'' (Moved.trans W.gtrans ((hm.mono hsub).then_heap (Nat.le_add_right _ _) fun b o hb e => ?_) hm'') hS'' hkp''
      rw [hsb.2 b (fun h : b = S => hb (by rw [h]; exact List.mem_cons_self))]; exact e

set_option maxRecDepth 100000 in
set_option maxHeartbeats 3200000 in
/-- set(xs) -/
theorem call_set_txts {l : Addr} {items : Array Value} (ks : List Str) {Q : Value → Shared → Prop} (hh : A.handled = none) (hl : s.heap.IsList l items) (hit : Vals (ks.map V.str) items.toList) (hnd : ks.Nodup) (hfew : ks.length < 64) (hu : A.units + 3 < cLine)
    (h : ∀ (h' : Heap) (tk : Nat), SetXR P w h' s.heap.objs.size ks → (∀ b o, s.heap.get? b = some o → h'.get? b = some o) → Q (.ref s.heap.objs.size) { s with heap := h', toks := tk }) :
    wpAny (model P w) A (call (.type "set") [.ref l]) Q E s := by
  have hisz : items.size = ks.length := by
    have q : (ks.map V.str).length = items.toList.length := Paired.length hit
    rw [List.length_map] at q
    rw [← Array.length_toList]
    exact q.symm
  obtain ⟨c, tl, hmro⟩ := F.called_set.mro
  have hmade := F.called_set.made
  have hsub := F.called_set.sub
  refine wpAny_call (codeAny_of_tree ?_)
  show wpAny _ _ (callAny (.type "set") _) _ _ _
  refine wpAny_pure ⟨Code.quiet_builtin _ (by decide +kernel), codeAny_builtin F.entry_type_call ?_⟩
  rw [Around.under_plain (weight_type_call_type "set" [.ref l] []) rfl]
  have h1 := F.called_set.notType
  have h2 := F.called_set.canCreate
  have hct := F.typeCall_set_1 (.ref l)
  repeat (any_goals (first | assumption | wp_step))

  refine codeAny_mono (code_set_led1 (.ref l) (E := E) (Q₁ := fun obj s₁ => obj = .ref s.heap.objs.size ∧ s₁ = { s with heap := s.heap.push { cls := .type "set", dict := none, data := .set #[] 0 (.fresh 0 0 (!w.params.followText "set-order")) } }) ⟨rfl, rfl⟩) fun r s₁ hr => ?_
  cases r with
  | error e => exact hr
  | ok fl =>
    cases fl with
    | ret obj =>
      obtain ⟨rfl, rfl⟩ := hr
      have hS : (s.heap.push { cls := .type "set", dict := none, data := .set #[] 0 (.fresh 0 0 (!w.params.followText "set-order")) }).get? s.heap.objs.size = some { cls := .type "set", dict := none, data := .set #[] 0 (.fresh 0 0 (!w.params.followText "set-order")) } := Heap.get?_push_size _ rfl
      have hT : Shared.TypeIs { s with heap := s.heap.push { cls := .type "set", dict := none, data := .set #[] 0 (.fresh 0 0 (!w.params.followText "set-order")) } } (.ref s.heap.objs.size) "set" := ⟨_, hS, rfl⟩
      have hli := F.called_set.init.lookup
      have hbi := F.called_set.init.bind (.ref s.heap.objs.size)
      repeat (any_goals (first | assumption | wp_step))

      refine codeAny_mono (codeAny_call_builtin (R := wants (fun r s₂ => r = .none ∧ ∃ h' tk, s₂ = { s with heap := h', toks := tk } ∧ SetXR P w h' s.heap.objs.size ks ∧
          (∀ b o, s.heap.get? b = some o → h'.get? b = some o)) E) F.called_set.init.plain F.entry_set_init (check_set_init_1 hT ?_)) fun r₂ s₂ hr₂ => ?_
      · obtain ⟨ol, hol, hcl, nl, hdl⟩ := hl
        obtain ⟨ocls, odict, odata, oslots⟩ := ol
        simp only at hcl hdl
        subst hcl; subst hdl
        have hol' : (s.heap.push { cls := .type "set", dict := none, data := .set #[] 0 (.fresh 0 0 (!w.params.followText "set-order")) }).get? l = some { cls := .type "list", dict := odict, data := .seq items nl, slots := oslots } := Heap.get?_push_of_some _ hol
        have hsls := F.sub_list_set
        have hslf := F.sub_list_frozenset
        have hne : (Value.type "list" == Value.type "dict") = false := by decide
        have hl1 : (s.heap.push { cls := .type "set", dict := none, data := .set #[] 0 (.fresh 0 0 (!w.params.followText "set-order")) }).IsList l items := ⟨_, hol', rfl, nl, rfl⟩
        unfold Builtin.«set.__init__» noKeywords Builtin.Frozenset.updateFrom
        generalize hPI : pyIter = PI
        wp_walk
        subst hPI

        refine wpAny_pyIter_list hl1 ?_
        refine wpAny_bind (wpAny_runValue ?_)
        have hlS : l < s.heap.objs.size := Heap.lt_size hol
        have hh3 : A.in1.in1.in1.handled = none := by simp [hh]
        have hz1 : (s.heap.push { cls := .type "set", dict := none, data := .set #[] 0 (.fresh 0 0 (!w.params.followText "set-order")) }).objs.size = s.heap.objs.size + 1 := Heap.size_push ..
        have hneI : l ≠ (s.heap.push { cls := .type "set", dict := none, data := .set #[] 0 (.fresh 0 0 (!w.params.followText "set-order")) }).objs.size := by
          rw [Heap.size_push]; exact Nat.ne_of_lt (Nat.lt_succ_of_lt hlS)
        have hSf : s.heap.objs.size ∉ [(s.heap.push { cls := .type "set", dict := none, data := .set #[] 0 (.fresh 0 0 (!w.params.followText "set-order")) }).objs.size, l] := by
          rw [Heap.size_push]; simp only [List.mem_cons, List.mem_singleton, List.not_mem_nil, or_false, not_or]
          exact ⟨Nat.ne_of_lt (Nat.lt_succ_self _), Nat.ne_of_gt hlS⟩
        have hval : ∀ (i : Nat) (v : Value), items[i]? = some v → ∃ p u, ks[i]? = some p ∧ v = .str p u := fun i v hv => by
          have q : items.toList[i]? = some v := by rw [Array.getElem?_toList]; exact hv
          cases h : ks[i]? with
          | none =>
            have := hit.none_of (i := i) (by rw [List.getElem?_map, h]; rfl)
            rw [this] at q; cases q
          | some n =>
            obtain ⟨u, h1, h2⟩ := hit.get (i := i) (x := .str n) (by rw [List.getElem?_map, h]; rfl)
            rw [q] at h1; cases h1
            obtain ⟨tk, rfl⟩ := h2
            exact ⟨n, tk, rfl, rfl⟩
        have none_of : ∀ b, s.heap.objs.size ≤ b → s.heap.get? b = none := fun b hb => by
          cases q : s.heap.get? b with
          | none => rfl
          | some o => exact absurd (Nat.lt_of_lt_of_le (Heap.lt_size q) hb) (Nat.lt_irrefl _)
        refine set_update_txts ((Walks.list hh3 _ l hneI items).toS) s.heap.objs.size
          hSf ks hisz hfew hval hnd s.heap (none_of _ (Nat.le_refl _)) (fun b hb => none_of b (by
            rw [List.mem_singleton.mp hb, Heap.size_push]
            exact Nat.le_succ _)) hu (items.size - 0) 0 _ (by omega) (Nat.zero_le _)
          ⟨⟨_, Heap.get?_push_size _ rfl, rfl, rfl⟩, (hl1.push _)⟩ (fun b o e => Heap.get?_push_of_some _ (Heap.get?_push_of_some _ e)) ?hS0 ?hR
        case hS0 =>
          have hget : ((s.heap.push { cls := .type "set", dict := none, data := .set #[] 0 (.fresh 0 0 (!w.params.followText "set-order")) }).push { cls := .type "list_iterator", data := .fields #[.ref l, .int 0 0] }).get? s.heap.objs.size
              = some { cls := .type "set", dict := none, data := .set #[] 0 (.fresh 0 0 (!w.params.followText "set-order")) } := Heap.get?_push_of_some _ hS
          exact setXR_fresh hget
        case hR =>
          intro s' hm hS' hkp
          obtain ⟨h', g2, d', tk', os'⟩ := s'
          have eg : g2 = s.gens := hm.gens
          have ed : d' = s.drawn := hm.drawn
          have eo : os' = s.os := hm.os
          subst eg; subst ed; subst eo
          show wpAny _ _ _ _ _ _
          refine wpAny_pure ?_
          show wpAny _ _ (ret Value.none) _ _ _
          exact wpAny_pure ⟨rfl, h', tk', rfl, hS', hkp⟩

      · cases r₂ with
        | error e => exact hr₂
        | ok fl₂ =>
          cases fl₂ with
          | ret r =>
            obtain ⟨rfl, h', tk, rfl, hS', hk'⟩ := hr₂
            repeat (any_goals (first | assumption | wp_step))
            exact h _ _ hS' hk'
          | _ => exact hr₂.elim
    | _ => exact hr.elim

end
end SH
/-! R11 -/
set_option Elab.async false
set_option linter.all false
set_option maxRecDepth 100000
set_option maxHeartbeats 4000000
/-! sets of texts, of pairs of texts: rules. -/
namespace SH
open PySem PySem.Spec PyProof.Rows L2
open PySem.W (EachIs)
theorem sorted_uniq {α : Type} {R : α → α → Prop} (as : ∀ a b, R a b → ¬ R b a) : ∀ {l m : List α}, l.Perm m → l.Pairwise R → m.Pairwise R → l = m
  | [], m, p, _, _ => (List.nil_perm.mp p).symm
  | a :: l, [], p, _, _ => absurd p.symm (by simp)
  | a :: l, b :: m, p, h1, h2 => by
    obtain ⟨ha, h1'⟩ := List.pairwise_cons.mp h1
    obtain ⟨hb, h2'⟩ := List.pairwise_cons.mp h2
    have e : a = b := by
      rcases List.mem_cons.mp (p.mem_iff.mp List.mem_cons_self) with z | z
      · exact z
      · rcases List.mem_cons.mp (p.mem_iff.mpr List.mem_cons_self) with y | y
        · exact y.symm
        · exact absurd (ha b y) (as _ _ (hb a z))
    subst e
    rw [sorted_uniq as (List.perm_cons _ |>.mp p) h1' h2']
theorem perm_of_sub {α : Type} [DecidableEq α] : ∀ {l m : List α}, l.Nodup → (∀ x ∈ l, x ∈ m) → m.length ≤ l.length → l.Perm m
  | [], m, _, _, h => by
    have : m = [] := List.length_eq_zero_iff.mp (Nat.le_zero.mp h)
    rw [this]
  | a :: l, m, nd, hs, h => by
    obtain ⟨hn, nd'⟩ := List.nodup_cons.mp nd
    have ha := hs a List.mem_cons_self
    have p := List.perm_cons_erase ha
    refine (List.Perm.cons a ?_).trans p.symm
    refine perm_of_sub nd' (fun x hx => ?_) ?_
    · have hne : x ≠ a := fun z => hn (z ▸ hx)
      exact (List.mem_erase_of_ne hne).mpr (hs x (List.mem_cons_of_mem _ hx))
    · rw [List.length_erase_of_mem ha]
      simp only [List.length_cons] at h
      omega
theorem each_perm {α β : Type} {R : α → β → Prop} {us vs : List α} (p : vs.Perm us) : ∀ {bs : List β}, EachIs R us bs → ∃ bs', bs'.Perm bs ∧ EachIs R vs bs' := by
  induction p with
  | nil => intro bs e; exact ⟨bs, List.Perm.refl _, e⟩
  | cons x _ ih =>
    intro bs e
    cases e with
    | cons h e =>
      obtain ⟨bs', p', e'⟩ := ih e
      exact ⟨_ :: bs', p'.cons _, .cons h e'⟩
  | swap x y l =>
    intro bs e
    cases e with
    | cons h e =>
      cases e with
      | cons h' e => exact ⟨_, List.Perm.swap _ _ _, .cons h' (.cons h e)⟩
  | trans _ _ ih1 ih2 =>
    intro bs e
    obtain ⟨b2, p2, e2⟩ := ih2 e
    obtain ⟨b1, p1, e1⟩ := ih1 e2
    exact ⟨b1, p1.trans p2, e1⟩
section
variable {P : Program} {w : World} {A : Around} {E : Value → Shared → Prop} {s : Shared} {β : Type} {R : Value → β → Prop} {enc : β → PyData} {bs : List β}
theorem sorted_setD {a : Addr} {es : Array (Int × Value)} {ep : Nat} {t : SetTable} {Q : Value → Shared → Prop} (ha : SetAt s.heap a es ep t) (hf : t.fits es.size = true) (hfew : es.size < 64) (r : Ris t.place.toList) (hl : w.params.followText "set-order" = true ∨ t.led = true)
    (hh : A.handled = none) (hu : ∀ b, b ∈ bs → A.units + 2 + (enc b).depth < cLine) (e : EachIs (fun v b => R v b ∧ Reads s.heap v (enc b) []) (es.toList.map (·.2)) bs)
    (hal : ∀ b b', PySem.W.alike (enc b) (enc b') = true) (hk : PySem.W.Sortable (bs.map enc))
    (hQ : ∀ s' p (out : Array Value) (c : Nat) (bs' : List β), (∀ b o, s.heap.get? b = some o → s'.heap.get? b = some o) → s'.gens = s.gens → s'.os = s.os → s.heap.objs.size ≤ p →
      s'.heap.get? p = some (seqObj "list" out c) → bs'.Perm bs → EachIs R out.toList bs' → bs'.Pairwise (fun b b' => PySem.W.dataLt (enc b') (enc b) = false) → Q (.ref p) s') :
    wpAny (model P w) A (call (.builtin "sorted") [.ref a]) Q E s := by
  have hsz : bs.length = es.size := by have := e.length; rw [List.length_map, Array.length_toList] at this; exact this.symm
  refine Calls.call_function_entry kind_sorted plain_sorted entry_sorted (args_sorted1 _) ?_
  unfold Builtin.«sorted»
  refine wpAny_bind (m := checkCount "sorted" 1 1 _) (wpAny_pure ?_)
  refine wpAny_bind (collect_set (A := A.in1) hh ha hf (by unfold scanBound; omega) r hl fun s1 vs k1 hz g1 o1 pm => ?_)
  obtain ⟨bs1, p1, e1⟩ := each_perm pm e
  have hvl : vs.length < 64 := by rw [pm.length_eq, List.length_map, Array.length_toList]; exact hfew
  refine wpAny_bind (wpAny_newList ?_ (by rw [sizeLine_eq]; omega))
  have hoL : (s1.heap.push (seqObj "list" vs.toArray 0)).get? s1.heap.objs.size = some (seqObj "list" vs.toArray 0) := Heap.get?_push_size _ rfl
  have kk : ∀ b u, s.heap.get? b = some u → (s1.heap.push (seqObj "list" vs.toArray 0)).get? b = some u := fun b u q => Heap.get?_push_of_some _ (k1 b u q)
  refine wpAny_bind (wpAny_holding (PySem.W.list_sort_data (s := { s1 with heap := s1.heap.push (seqObj "list" vs.toArray 0) }) (R := R) (enc := enc) (bs := bs1) hoL (e1.mono fun _ _ h => h.1) (e1.mono fun _ _ h => ⟨[], PyProof.Rows.Reads.keeps kk h.2, by simp⟩) (PySem.W.AllAlike.of hal)
    (by
      rcases hk with h | h
      · exact .inl fun d hd => h d (((p1.map enc).mem_iff).mp hd)
      · exact .inr fun d hd => h d (((p1.map enc).mem_iff).mp hd))
    (by rw [p1.length_eq, hsz, sizeLine_eq]; omega) (fun b hb => by have := hu b (p1.mem_iff.mp hb); show A.units + 1 + 1 + _ < _; omega) fun out ho hE => ?_))
  obtain ⟨c, hc⟩ := sortedHeap_at (vs := vs) (out := out.toArray) hoL
  refine wpAny_pure ⟨_, rfl, hQ _ s1.heap.objs.size out.toArray c _ (fun b u q => ?_) g1 o1 hz hc ((List.mergeSort_perm _ _).trans p1) (by simpa using hE) ?_⟩
  · have q := k1 b u q
    have hlt := Heap.lt_size q
    show (sortedHeap (s1.heap.push (seqObj "list" vs.toArray 0)) s1.heap.objs.size vs out.toArray).get? b = some u
    rw [sortedHeap_old (Nat.ne_of_lt hlt) (by rw [size_push']; exact Nat.lt_succ_of_lt hlt)]
    exact Heap.get?_push_of_some _ q
  · have := PySem.W.sort_pairwise (PySem.W.sortLe_total (listOrd itemOrd) false fun b => PySem.W.keyToks (enc b)) bs1
    refine List.Pairwise.imp (fun {a b} h => ?_) this
    have h2 : PySem.W.dataLe false enc a b = true := h
    rw [PySem.W.dataLe_eq] at h2
    simpa using h2
end
end SH
/-! R12 -/
set_option Elab.async false
set_option linter.all false
set_option maxRecDepth 100000
set_option maxHeartbeats 4000000
/-! sets of texts, of pairs of texts: the rules. -/
namespace SH
open PySem PySem.Spec PyProof.Rows L2
open PySem.W (EachIs)
abbrev Pr := Str × Str
def ppl (p q : Pr) : Prop := slt p.1 q.1 ∨ (p.1 = q.1 ∧ slt p.2 q.2)
theorem ppl_irr (a : Pr) : ¬ ppl a a := fun h => by
  rcases h with h | ⟨_, h⟩ <;> exact slt_irr _ h
theorem ppl_trans {a b c : Pr} (h : ppl a b) (k : ppl b c) : ppl a c := by
  rcases h with h | ⟨h, h'⟩ <;> rcases k with k | ⟨k, k'⟩
  · exact .inl (slt_trans h k)
  · exact .inl (k ▸ h)
  · exact .inl (h ▸ k)
  · exact .inr ⟨h.trans k, slt_trans h' k'⟩
theorem ppl_asymm (a b : Pr) (h : ppl a b) : ¬ ppl b a := fun k => ppl_irr a (ppl_trans h k)
def pr2 : List Str → Pr
  | [x, y] => (x, y)
  | _ => ("", "")
theorem dataLt_pr (p q : Pr) (h : PySem.W.dataLt (.tuple [.str q.1, .str q.2]) (.tuple [.str p.1, .str p.2]) = false) (ne : p ≠ q) : ppl p q := by
  rw [PySem.W.dataLt_pair rfl rfl] at h
  by_cases e1 : q.1 = p.1
  · rw [if_pos (by simp [PyData.eqv, e1])] at h
    have e2 : q.2 ≠ p.2 := fun z => ne (Prod.ext e1.symm z.symm)
    rw [if_neg (by simp [PyData.eqv, e2]), PySem.W.dataLt_str] at h
    have h' : ¬ slt q.2 p.2 := of_decide_eq_false h
    rcases slt_tri p.2 q.2 with z | z | z
    · exact .inr ⟨e1.symm, z⟩
    · exact absurd z.symm e2
    · exact absurd z h'
  · rw [if_neg (by simp [PyData.eqv, e1]), PySem.W.dataLt_str] at h
    have h' : ¬ slt q.1 p.1 := of_decide_eq_false h
    rcases slt_tri p.1 q.1 with z | z | z
    · exact .inl z
    · exact absurd z.symm e1
    · exact absurd z h'
/-- the set at a of the texts l, tracked -/
def SetXO (P : Program) (w : World) (a : Addr) (l : List Str) : HO := .ext fun h => SetXR P w h a l
theorem setXO_new {P : Program} {w : World} {H : Hp} {h : Heap} {a : Addr} {l : List Str} (R : SetXR P w h a l) : ObjOk P w H h a (SetXO P w a l) := by
  have R' := R
  obtain ⟨D, l', p, e, r⟩ := R
  exact ⟨R', ⟨_, e⟩, fun h1 h2 q k => SetXR.at q k⟩
section
variable {X : Cx} {pins : List (Addr × Obj)} {σ : L2.St} {H : Hp} {s : Shared}
/-- set(xs), xs a list of different texts -/
def rSetX (K : PySem.W.Frag) (P : Program) (w : World) : List V → Hp → VK → Prop := fun xs H Q => ∃ (l : Addr) (ks : List Str), xs = [V.ref l] ∧ SqL K H l (ks.map V.str) ∧ ks.Nodup ∧ ks.length < 64 ∧ ∀ a, H a = none → Q (.ref a) (upd H a (SetXO P w a ks))
theorem cr_setX (hc : X.calm = true) (hu : X.A.units + 64 < cLine) : CallR X (.type "set") (rSetX X.K X.prog X.w) := by
  intro pins s σ H xs us Q I r h
  obtain ⟨l, ks, rfl, hl, hnd, hf, q⟩ := h
  rw [Vals.ref1 r]
  obtain ⟨its, rv, pl, hz⟩ := I.list hl
  have hn : H s.heap.objs.size = none := I.hok.fresh (Nat.le_refl _)
  refine call_set_txts (P := X.prog) (w := X.w) ks (I.ok.hd hc) pl.isList (by simpa using rv) hnd hf (by omega) fun h' tk R k => ?_
  exact ⟨.ref s.heap.objs.size, upd H s.heap.objs.size (SetXO X.prog X.w s.heap.objs.size ks), I.laid (t' := tk) k (Nat.le_refl _) (setXO_new R), rfl, q _ hn⟩
/-- len(set) -/
def rLenX (P : Program) (w : World) : List V → Hp → VK → Prop := fun vs H Q => ∃ (a : Addr) (ks : List Str), vs = [V.ref a] ∧ H a = some (SetXO P w a ks) ∧ ks.length < 64 ∧ Q (.int ks.length) H
theorem cr_lenX : CallR X (.builtin "len") (rLenX X.prog X.w) := by
  intro pins s σ H vs us Q I r h
  obtain ⟨a, ks, rfl, ha, hl, q⟩ := h
  rw [Vals.ref1 r]
  obtain ⟨D, l', p, ho, F, _⟩ : SetXR X.prog X.w s.heap a ks := (I.hok a _ ha).1
  have hz : D.1.size = ks.length := F.sz.trans p.length_eq
  exact call_len_set ho ⟨rfl, rfl, rfl⟩ rfl F.fit (by rw [hz]; omega) ⟨.int ks.length, H, I.tok _, ⟨_, by rw [hz]⟩, q⟩
theorem inv_after {s' : Shared} {p : Addr} {o : HO} (I : Inv X pins σ H s) (k : ∀ b u, s.heap.get? b = some u → s'.heap.get? b = some u) (hg : s'.gens = s.gens) (ho : s'.os = s.os) (hp : s.heap.objs.size ≤ p) (new : ObjOk X.prog X.w (upd H p o) s'.heap p o) : Inv X pins σ (upd H p o) s' := by
  have J : Inv X pins σ (upd H p o) { s with heap := s'.heap, gens := s'.gens, drawn := s'.drawn, toks := s'.toks } :=
    I.call (ch := []) (Un.laid k hp (I.hok.fresh hp)) (I.hok.laid k hp new) (by rw [hg]; exact I.bare) (fun _ z => nomatch z)
  have e : s' = { s with heap := s'.heap, gens := s'.gens, drawn := s'.drawn, toks := s'.toks } := by
    cases s'
    cases s
    cases ho
    rfl
  rw [e]
  exact J
/-- sorted(set), texts -/
def rSortedX (P : Program) (w : World) : List V → Hp → VK → Prop := fun vs H Q => ∃ (a : Addr) (ks : List Str), vs = [V.ref a] ∧ H a = some (SetXO P w a ks) ∧ ks.Nodup ∧ ks.length < 64 ∧
  ∀ (ns : List Str) (p : Addr), ns.Perm ks → ns.Pairwise slt → H p = none → Q (.ref p) (upd H p (.lst (ns.map V.str)))
theorem each_vals {f : Str → V} : ∀ {us : List Value} {bs : List Str}, EachIs (fun v b => L2.RelV (f b) v) us bs → Vals (bs.map f) us
  | _, _, .nil => .nil
  | _, _, .cons h t => .cons h (each_vals t)
theorem cr_sortedX (hc : X.calm = true) (hu : X.A.units + 64 < cLine) : CallR X (.builtin "sorted") (rSortedX X.prog X.w) := by
  intro pins s σ H vs us Q I r h
  obtain ⟨a, ks, rfl, ha, hnd, hfew, q⟩ := h
  rw [Vals.ref1 r]
  obtain ⟨D, l', pm, ho, F, hr, hl⟩ : SetXR X.prog X.w s.heap a ks := (I.hok a _ ha).1
  obtain ⟨es, ep, t⟩ := D
  have hz : es.size = ks.length := F.sz.trans pm.length_eq
  -- the elements are texts
  have el : ∀ e ∈ es.toList, ∃ k u, e.2 = Value.str k u := fun e he => by
    obtain ⟨⟨k, hk, _⟩, _⟩ := F.el e he
    obtain ⟨u, hu⟩ := Value.isStrOf_shape hk
    exact ⟨k, u, hu⟩
  have bsE : ∀ l : List (Int × Value), (∀ e ∈ l, ∃ k u, e.2 = Value.str k u) → ∃ bs : List Str, EachIs (fun v b => L2.RelV (.str b) v ∧ Reads s.heap v (PyData.str b) []) (l.map (·.2)) bs ∧ (∀ k, (∃ e ∈ l, (strKind X.prog X.w).is k e.2 = true) → k ∈ bs) := by
    intro l
    induction l with
    | nil => intro _; exact ⟨[], .nil, fun k ⟨e, he, _⟩ => by simp at he⟩
    | cons e l ih =>
      intro h
      obtain ⟨k, u, hk⟩ := h e List.mem_cons_self
      obtain ⟨bs, h1, h2⟩ := ih fun e he => h e (List.mem_cons_of_mem _ he)
      refine ⟨k :: bs, .cons ?_ h1, fun k' ⟨e', he', hk'⟩ => ?_⟩
      · show L2.RelV (V.str k) e.2 ∧ Reads s.heap e.2 (PyData.str k) []
        rw [hk]; exact ⟨⟨u, rfl⟩, .str k u⟩
      · rcases List.mem_cons.mp he' with z | z
        · rw [z, hk] at hk'
          have : k' = k := (strKind X.prog X.w).inj (.str k u) k' k hk' (PySem.Froz.is_str k u)
          rw [this]; exact List.mem_cons_self
        · exact List.mem_cons_of_mem _ (h2 k' ⟨e', z, hk'⟩)
  obtain ⟨bs, hE, hm⟩ := bsE es.toList el
  have hbl : bs.length = ks.length := by
    have := hE.length
    rw [List.length_map, Array.length_toList] at this
    omega
  have pb : ks.Perm bs := perm_of_sub hnd (fun k hk => hm k ((F.mem k).mp (pm.mem_iff.mpr hk))) (by omega)
  have hfew' : es.size < 64 := by rw [hz]; exact hfew
  refine sorted_setD (P := X.prog) (w := X.w) (enc := PyData.str) (R := fun v b => L2.RelV (.str b) v) ⟨_, ho, rfl, rfl⟩ F.fit hfew' hr hl (I.ok.hd hc) (fun b _ => by show X.A.units + 2 + 0 < _; omega) hE (fun _ _ => rfl) (.inr fun d hd => ?_) fun s' p out c bs' k g o hp hg p1 e1 pw => ?_
  · obtain ⟨b, _, rfl⟩ := List.mem_map.mp hd
    exact ⟨(fun z => nomatch z), fun xs z => nomatch z⟩
  · have pk : bs'.Perm ks := p1.trans pb.symm
    have nd' : bs'.Nodup := pk.nodup_iff.mpr hnd
    have hlen : (bs'.map V.str).length ≤ sizeLine := by rw [List.length_map, pk.length_eq, sizeLine_eq]; omega
    refine ⟨.ref p, _, inv_after (o := .lst (bs'.map V.str)) I k g o hp ⟨hlen, out.toList, c, each_vals e1, by simpa using hg⟩, rfl, q bs' p pk ?_ (I.hok.fresh hp)⟩
    refine (List.Pairwise.and pw nd').imp fun {x y} h => ?_
    have h1 : ¬ slt y x := by have := h.1; rw [PySem.W.dataLt_str] at this; exact of_decide_eq_false this
    rcases slt_tri x y with z | z | z
    · exact z
    · exact absurd z h.2
    · exact absurd z h1
/-- sorted(set), pairs of texts -/
def rSortedP (K : PySem.W.Frag) (P : Program) (w : World) : List V → Hp → VK → Prop := fun vs H Q => ∃ (a : Addr) (L : List (Addr × List Str)), vs = [V.ref a] ∧ H a = some (TSS.SetTO P w a L) ∧ (∀ p ∈ L, SqT K H p.1 (p.2.map V.str) ∧ ∃ x y, p.2 = [x, y]) ∧
  ∀ (L' : List (Addr × List Str)) (p : Addr), L'.Perm L → (L'.map fun q => pr2 q.2).Pairwise ppl → H p = none → Q (.ref p) (upd H p (.lst (L'.map fun q => V.ref q.1)))
theorem cr_sortedP (hc : X.calm = true) (hu : X.A.units + 64 < cLine) : CallR X (.builtin "sorted") (rSortedP X.K X.prog X.w) := by
  intro pins s σ H vs us Q I r h
  obtain ⟨a, L, rfl, ha, hL, q⟩ := h
  rw [Vals.ref1 r]
  have R0 : TSS.SetT0 X.prog X.w s.heap a L := (I.hok a _ ha).1
  obtain ⟨es, ep, t, R⟩ := R0.full fun p hp => inv_isT I (hL p hp).1
  obtain ⟨o, ho, hex, hd⟩ := R.ob
  have hsz := R.size
  have hfew := R.few
  have hes : es.toList.map (·.2) = L.map fun q => Value.ref q.1 := by
    rw [R.rows]
    unfold TSS.rowsOf
    rw [List.map_map] <;> rfl
  have rd : ∀ p ∈ L, Reads s.heap (.ref p.1) (PyData.tuple [.str (pr2 p.2).1, .str (pr2 p.2).2]) [] := fun p hp => by
    obtain ⟨h1, x, y, e⟩ := hL p hp
    obtain ⟨its, rv, ⟨ob, ho, hc, n, hd⟩, _⟩ := I.tuple h1
    rw [e] at rv ⊢
    obtain ⟨u1, u2, rfl, r1, r2⟩ := vals2 rv
    obtain ⟨t1, rfl⟩ := r1
    obtain ⟨t2, rfl⟩ := r2
    exact .tuple ho hc hd (.cons (as := []) (bs := []) (.str _ _) (.cons (as := []) (bs := []) (.str _ _) .nil))
  have hE : ∀ M : List (Addr × List Str), (∀ p ∈ M, p ∈ L) → EachIs (fun v (b : Addr × List Str) => (v = Value.ref b.1) ∧ Reads s.heap v (PyData.tuple [.str (pr2 b.2).1, .str (pr2 b.2).2]) []) (M.map fun q => Value.ref q.1) M := by
    intro M
    induction M with
    | nil => intro _; exact .nil
    | cons p M ih => intro h; exact .cons ⟨rfl, rd p (h p List.mem_cons_self)⟩ (ih fun q hq => h q (List.mem_cons_of_mem _ hq))
  refine sorted_setD (P := X.prog) (w := X.w) (enc := fun b : Addr × List Str => PyData.tuple [.str (pr2 b.2).1, .str (pr2 b.2).2]) (R := fun v b => v = Value.ref b.1) ⟨o, ho, hex.1, hd⟩ R.fits (by omega) R.tab.ris R.led (I.ok.hd hc)
    (fun b _ => by
      have e : (PyData.tuple [.str (pr2 b.2).1, .str (pr2 b.2).2]).depth = 1 := by simp [PyData.depth, PyData.depthAll]
      rw [e]; omega)
    (by rw [hes]; exact hE L fun _ h => h) (fun _ _ => rfl) (.inl fun d hd => ?_) fun s' p out c bs' k g o hp hg p1 e1 pw => ?_
  · obtain ⟨b, _, rfl⟩ := List.mem_map.mp hd
    exact ⟨_, _, rfl⟩
  · have hlen : (bs'.map fun q => V.ref q.1).length ≤ sizeLine := by rw [List.length_map, p1.length_eq, sizeLine_eq]; omega
    have ev : ∀ {us : List Value} {bs : List (Addr × List Str)}, EachIs (fun v b => v = Value.ref b.1) us bs → Vals (bs.map fun q => V.ref q.1) us := by
      intro us bs h
      induction h with
      | nil => exact .nil
      | cons h _ ih => exact .cons h ih
    refine ⟨.ref p, _, inv_after (o := .lst (bs'.map fun q => V.ref q.1)) I k g o hp ⟨hlen, out.toList, c, ev e1, by simpa using hg⟩, rfl, q bs' p p1 ?_ (I.hok.fresh hp)⟩
    have nd' : (bs'.map (·.2)).Nodup := (p1.map (·.2)).nodup_iff.mpr R.nd
    have nd2 := List.pairwise_map.mp nd'
    refine List.pairwise_map.mpr ((List.Pairwise.and pw nd2).imp_of_mem fun {x y} hx hy h => dataLt_pr _ _ h.1 fun z => h.2 ?_)
    obtain ⟨_, x1, x2, ex⟩ := hL x (p1.mem_iff.mp hx)
    obtain ⟨_, y1, y2, ey⟩ := hL y (p1.mem_iff.mp hy)
    rw [ex, ey] at z ⊢
    have z' : (x1, x2) = (y1, y2) := z
    cases z'
    rfl
end
end SH
/-! Dn -/
set_option Elab.async false
set_option linter.all false
set_option maxRecDepth 100000
set_option maxHeartbeats 4000000
/-! What is kept, what a chart is, how it lies in the heap. -/
namespace SH
open PySem PySem.Spec PyProof.Rows L2 LamX
abbrev Frg := PySem.W.Frag
def tS (K : Frg) : Addr := (He.cT K (("spread" : Str), none)).2
def tR (K : Frg) : Addr := (He.cT K (("_law_refusals_right" : Str), none)).2
def qS : Str := (("spread" : Str) ++ (".<locals>." : Str)) ++ ("<lambda>" : Str)
def qR : Str := (("_law_refusals_right" : Str) ++ (".<locals>." : Str)) ++ ("<lambda>" : Str)
def TT (K : Frg) : List (Addr × Str) := [(tS K, qS), (tR K, qR)]
/-- all stays but the tables, which stay tables -/
structure Up (K : Frg) (H H' : Hp) : Prop where
  ext : ExtN H H'
  tab : Tabs (TT K) H → Tabs (TT K) H'
section
variable {K : Frg} {H H1 H2 : Hp} {a p d : Addr} {o u : HO} {od : Obj}
theorem Up.rfl' : Up K H H := ⟨ExtN.refl H, id⟩
theorem Up.trans (x : Up K H H1) (y : Up K H1 H2) : Up K H H2 := ⟨x.ext.trans y.ext, fun t => y.tab (x.tab t)⟩
/-- anything but a table -/
def Lcl : HO → Prop
  | .lst _ => True
  | .tup _ => True
  | .dK _ => True
  | .ins _ _ _ => True
  | .own _ => True
  | .frz _ _ => True
  | _ => False
theorem Lcl.nt {o : HO} (h : Lcl o) : (∀ ps, o ≠ .tbl ps) ∧ ∀ c q, o ≠ CodeO c q := ⟨fun ps z => by rw [z] at h; exact h, fun c q z => by rw [z] at h; exact h⟩
theorem Up.at (x : Up K H H1) (h : H a = some o) (l : Lcl o := by trivial) : H1 a = some o := x.ext a o h l.nt.1
theorem Up.atN (x : Up K H H1) (h : H a = some o) (l : ∀ ps, o ≠ .tbl ps) : H1 a = some o := x.ext a o h l
theorem Up.all (h : ∀ b o, H b = some o → H1 b = some o) : Up K H H1 := ⟨ExtN.of h, fun t => t.ext h⟩
theorem ext_new (n : H p = none) : ∀ b v, H b = some v → upd H p o b = some v := fun b v e => by rw [upd_ne (ne_of_none e n)]; exact e
theorem Up.new (n : H p = none) : Up K H (upd H p o) := .all (ext_new n)
theorem Up.add (x : Up K H H1) (n : H1 p = none) : Up K H (upd H1 p o) := x.trans (.new n)
theorem Up.fresh (x : Up K H H1) (n : H1 p = none) (l : ∀ u, H p = some u → Lcl u) : H p = none := by
  cases q : H p with
  | none => rfl
  | some u => rw [x.at q (l u q)] at n; cases n
/-- a thing of one's own is written -/
theorem Up.wr (x : Up K H H1) (n : H p = none) (h : H1 p = some u) (l : Lcl u) : Up K H (upd H1 p o) := by
  refine ⟨fun b v e hb => ?_, fun t P hP => ?_⟩
  · rw [upd_ne (ne_of_none e n)]; exact x.ext b v e hb
  · obtain ⟨ps, h1, h2, h3⟩ := x.tab t P hP
    have n1 : P.1 ≠ p := fun z => by rw [z, h] at h1; exact l.nt.1 ps (Option.some.inj h1)
    refine ⟨ps, by rw [upd_ne n1]; exact h1, h2, fun pos cv hc => ?_⟩
    obtain ⟨c, e1, e2⟩ := h3 pos cv hc
    refine ⟨c, e1, ?_⟩
    rw [upd_ne (fun z => by rw [z, h] at e2; exact l.nt.2 _ _ (Option.some.inj e2))]
    exact e2
/-- a thing is locked, later let go -/
theorem Up.lock (h : H d = some u) (l : Lcl u) (x : Up K (upd H d (.frz od u)) H1) : Up K H (upd H1 d u) := by
  have fz : H1 d = some (.frz od u) := x.at upd_same
  refine ⟨fun b v e hb => ?_, fun t P hP => ?_⟩
  · by_cases z : b = d
    · rw [z, h] at e; cases e; rw [z, upd_same]
    · rw [upd_ne z]; exact x.ext b v (by rw [upd_ne z]; exact e) hb
  · have t1 : Tabs (TT K) (upd H d (.frz od u)) := fun P hP => by
      obtain ⟨ps, h1, h2, h3⟩ := t P hP
      refine ⟨ps, by rw [upd_ne (fun z => by rw [z, h] at h1; exact l.nt.1 ps (Option.some.inj h1))]; exact h1, h2, fun pos cv hc => ?_⟩
      obtain ⟨c, e1, e2⟩ := h3 pos cv hc
      exact ⟨c, e1, by rw [upd_ne (fun z => by rw [z, h] at e2; exact l.nt.2 _ _ (Option.some.inj e2))]; exact e2⟩
    obtain ⟨ps, h1, h2, h3⟩ := x.tab t1 P hP
    refine ⟨ps, by rw [upd_ne (fun z => by rw [z, fz] at h1; cases h1)]; exact h1, h2, fun pos cv hc => ?_⟩
    obtain ⟨c, e1, e2⟩ := h3 pos cv hc
    exact ⟨c, e1, by rw [upd_ne (fun z => by rw [z, fz] at e2; exact (Lcl.nt (o := .frz od u) trivial).2 _ _ (Option.some.inj e2))]; exact e2⟩
theorem Up.tabs (x : Up K H H1) (t : Tabs (TT K) H) : Tabs (TT K) H1 := x.tab t
end
/-! ### tables by names -/
def mp (ns : List Str) (f : Str → V) : List (Key × V) := ns.map fun n => (Sum.inr n, f n)
theorem mp_len {ns : List Str} {f : Str → V} : (mp ns f).length = ns.length := List.length_map _
theorem valV_mp {f : Str → V} (n : Str) : ∀ ns : List Str, valV (mp ns f) (Sum.inr n) = if n ∈ ns then some (f n) else none
  | [] => rfl
  | m :: r => by
    show valV ((Sum.inr m, f m) :: mp r f) (Sum.inr n) = _
    by_cases e : m = n
    · subst e
      rw [valV_pos (p := ((Sum.inr m : Key), f m)) rfl, if_pos List.mem_cons_self]
    · rw [valV_neg (p := ((Sum.inr m : Key), f m)) (fun z => e (Sum.inr.inj z)), valV_mp n r]
      by_cases h : n ∈ r
      · rw [if_pos h, if_pos (List.mem_cons_of_mem _ h)]
      · rw [if_neg h, if_neg (fun z => by
          rcases List.mem_cons.mp z with y | y
          · exact e y.symm
          · exact h y)]
theorem valV_in {f : Str → V} {n : Str} {ns : List Str} (h : n ∈ ns) : valV (mp ns f) (Sum.inr n) = some (f n) := by rw [valV_mp, if_pos h]
theorem valV_out {f : Str → V} {n : Str} {ns : List Str} (h : n ∉ ns) : valV (mp ns f) (Sum.inr n) = none := by rw [valV_mp, if_neg h]
theorem mp_keys {f : Str → V} {ns : List Str} : (mp ns f).map (fun kv => kV kv.1) = ns.map V.str := by
  unfold mp; rw [List.map_map]; rfl
theorem mp_congr {f g : Str → V} {ns : List Str} (h : ∀ n ∈ ns, f n = g n) : mp ns f = mp ns g := List.map_congr_left fun n hn => by rw [h n hn]
/-- a new key at the end -/
theorem putK_new {f : Str → V} {ns : List Str} {n : Str} (h : n ∉ ns) {v : V} : putK (mp ns f) (Sum.inr n) v = mp ns f ++ [(Sum.inr n, v)] := by
  unfold putK
  rw [valV_any, valV_out h]; rfl
/-- a key's value anew -/
theorem putK_old {f : Str → V} {ns : List Str} {n : Str} (h : n ∈ ns) {v : V} : putK (mp ns f) (Sum.inr n) v = mp ns (fun m => if m = n then v else f m) := by
  unfold putK
  rw [valV_any, valV_in h, if_pos (show (some (f n)).isSome = true from rfl)]
  unfold mp
  rw [List.map_map]
  refine List.map_congr_left fun m _ => ?_
  show (if (Sum.inr m : Key) = Sum.inr n then ((Sum.inr m : Key), v) else (Sum.inr m, f m)) = (Sum.inr m, if m = n then v else f m)
  by_cases e : m = n
  · rw [if_pos (congrArg _ e), if_pos e]
  · rw [if_neg (fun z => e (Sum.inr.inj z)), if_neg e]
theorem mp_snoc {f : Str → V} {ns : List Str} {n : Str} : mp (ns ++ [n]) f = mp ns f ++ [(Sum.inr n, f n)] := by
  unfold mp; rw [List.map_append]; rfl
theorem mp_take {f : Str → V} {ns : List Str} {i : Nat} {n : Str} (h : ns[i]? = some n) : mp (ns.take (i + 1)) f = mp (ns.take i) f ++ [(Sum.inr n, f n)] := by
  rw [take_next h, mp_snoc]
theorem nodup_take_new {α : Type} {l : List α} {i : Nat} {x : α} (nd : l.Nodup) (h : l[i]? = some x) : x ∉ l.take i := fun z => by
  obtain ⟨hi, e⟩ := List.getElem?_eq_some_iff.mp h
  obtain ⟨j, hj, ej⟩ := List.mem_iff_getElem.mp z
  rw [List.length_take] at hj
  rw [List.getElem_take] at ej
  have := (List.getElem_inj (h₀ := by omega) (h₁ := hi) nd).mp (ej.trans e.symm)
  omega
/-! ### charts -/
structure Ch where
  names : List Str
  low : Str → Int
  high : Str → Int
  pairs : List Pr
  drains : List Str
/-- a lower-case name -/
def GoodN (n : Str) : Prop := 1 ≤ n.length ∧ n.length ≤ 8 ∧ ∀ c ∈ n.cps.toList, 97 ≤ c ∧ c ≤ 122
def GoodH (i : Int) : Prop := -1000000000000 ≤ i ∧ i ≤ 1000000000000
/-- the neighbours, in order -/
def nbr (ch : Ch) (n : Str) : List Str := ch.names.filter fun m => decide ((n, m) ∈ ch.pairs) || decide ((m, n) ∈ ch.pairs)
structure Ch.Ok (ch : Ch) : Prop where
  srt : ch.names.Pairwise slt
  few : ch.names.length ≤ 8
  good : ∀ n ∈ ch.names, GoodN n
  rng : ∀ n ∈ ch.names, GoodH (ch.low n) ∧ GoodH (ch.high n) ∧ ch.low n ≤ ch.high n
  psrt : ch.pairs.Pairwise ppl
  pfew : ch.pairs.length ≤ 40
  pin : ∀ p ∈ ch.pairs, p.1 ∈ ch.names ∧ p.2 ∈ ch.names ∧ slt p.1 p.2
  dsrt : ch.drains.Pairwise slt
  din : ∀ d ∈ ch.drains, d ∈ ch.names
theorem Ch.Ok.nd {ch : Ch} (h : ch.Ok) : ch.names.Nodup := h.srt.imp fun {a b} z (e : a = b) => slt_irr a (by rw [← e] at z; exact z)
theorem Ch.Ok.dnd {ch : Ch} (h : ch.Ok) : ch.drains.Nodup := h.dsrt.imp fun {a b} z (e : a = b) => slt_irr a (by rw [← e] at z; exact z)
theorem Ch.Ok.pnd {ch : Ch} (h : ch.Ok) : ch.pairs.Nodup := h.psrt.imp fun {a b} z (e : a = b) => ppl_irr a (by rw [← e] at z; exact z)
theorem nbr_srt {ch : Ch} (h : ch.Ok) (n : Str) : (nbr ch n).Pairwise slt := h.srt.filter _
theorem nbr_in {ch : Ch} {n m : Str} (h : m ∈ nbr ch n) : m ∈ ch.names := (List.mem_filter.mp h).1
theorem mem_nbr {ch : Ch} (h : ch.Ok) {n m : Str} : m ∈ nbr ch n ↔ (n, m) ∈ ch.pairs ∨ (m, n) ∈ ch.pairs := by
  unfold nbr
  rw [List.mem_filter, Bool.or_eq_true, decide_eq_true_eq, decide_eq_true_eq]
  refine ⟨fun z => z.2, fun z => ⟨?_, z⟩⟩
  rcases z with z | z
  · exact (h.pin _ z).2.1
  · exact (h.pin _ z).1
theorem len_of_nodup {α : Type} [DecidableEq α] : ∀ {l m : List α}, l.Nodup → (∀ x ∈ l, x ∈ m) → l.length ≤ m.length
  | [], _, _, _ => Nat.zero_le _
  | a :: l, m, nd, hs => by
    obtain ⟨hn, nd'⟩ := List.nodup_cons.mp nd
    have ha := hs a List.mem_cons_self
    have := len_of_nodup (m := m.erase a) nd' fun x hx => (List.mem_erase_of_ne (fun z : x = a => hn (z ▸ hx))).mpr (hs x (List.mem_cons_of_mem _ hx))
    rw [List.length_erase_of_mem ha] at this
    have : 0 < m.length := List.length_pos_of_mem ha
    simp only [List.length_cons]
    omega
theorem Ch.Ok.dfew {ch : Ch} (h : ch.Ok) : ch.drains.length ≤ 8 := Nat.le_trans (len_of_nodup h.dnd h.din) h.few
theorem nbr_few {ch : Ch} (h : ch.Ok) (n : Str) : (nbr ch n).length ≤ 8 := Nat.le_trans (List.length_filter_le ..) h.few
/-! ### in the heap -/
def BdAt (K : Frg) (H : Hp) (b : Addr) (l h : Int) : Prop := ∃ dx, H b = some (.ins (cB K) dx [("low", .int l), ("high", .int h)])
def HeldAt (K : Frg) (H : Hp) (d : Addr) (ch : Ch) : Prop := ∃ bd : Str → Addr, H d = some (.dK (mp ch.names fun n => .ref (bd n))) ∧ ∀ n ∈ ch.names, BdAt K H (bd n) (ch.low n) (ch.high n)
def PairsAt (H : Hp) (a : Addr) (ps : List Pr) : Prop := ∃ L : List (Addr × Pr), H a = some (.lst (L.map fun q => V.ref q.1)) ∧ (∀ q ∈ L, H q.1 = some (.tup [.str q.2.1, .str q.2.2])) ∧ L.map (·.2) = ps
def NearAt (H : Hp) (d : Addr) (ch : Ch) : Prop := ∃ nl : Str → Addr, H d = some (.dK (mp ch.names fun n => .ref (nl n))) ∧ ∀ n ∈ ch.names, H (nl n) = some (.lst ((nbr ch n).map V.str))
def ChartAt (K : Frg) (H : Hp) (a : Addr) (ch : Ch) : Prop := ∃ dx dh dp dd dn : Addr, H a = some (.ins (cC K) dx [("held", .ref dh), ("pairs", .ref dp), ("drains", .ref dd), ("near", .ref dn)]) ∧
  HeldAt K H dh ch ∧ PairsAt H dp ch.pairs ∧ H dd = some (.lst (ch.drains.map V.str)) ∧ NearAt H dn ch
def LandAt (K : Frg) (H : Hp) (a : Addr) (ch : Ch) (hs : Str → Int) : Prop := ∃ dx c d : Addr, H a = some (.ins (cL K) dx [("chart", .ref c), ("by_name", .ref d)]) ∧ ChartAt K H c ch ∧ H d = some (.dK (mp ch.names fun n => .int (hs n)))
section
variable {K : Frg} {H H1 : Hp} {a b d : Addr} {ch : Ch} {l h : Int} {ps : List Pr} {hs : Str → Int}
theorem BdAt.up (x : BdAt K H b l h) (u : Up K H H1) : BdAt K H1 b l h := let ⟨dx, e⟩ := x; ⟨dx, u.at e⟩
theorem HeldAt.up (x : HeldAt K H d ch) (u : Up K H H1) : HeldAt K H1 d ch := let ⟨bd, e, r⟩ := x; ⟨bd, u.at e, fun n hn => (r n hn).up u⟩
theorem PairsAt.up (x : PairsAt H a ps) (u : Up K H H1) : PairsAt H1 a ps := let ⟨L, e, r, t⟩ := x; ⟨L, u.at e, fun q hq => u.at (r q hq), t⟩
theorem NearAt.up (x : NearAt H d ch) (u : Up K H H1) : NearAt H1 d ch := let ⟨nl, e, r⟩ := x; ⟨nl, u.at e, fun n hn => u.at (r n hn)⟩
theorem ChartAt.up (x : ChartAt K H a ch) (u : Up K H H1) : ChartAt K H1 a ch := let ⟨dx, dh, dp, dd, dn, e, h1, h2, h3, h4⟩ := x; ⟨dx, dh, dp, dd, dn, u.at e, h1.up u, h2.up u, u.at h3, h4.up u⟩
theorem LandAt.up (x : LandAt K H a ch hs) (u : Up K H H1) : LandAt K H1 a ch hs := let ⟨dx, c, d, e, h1, h2⟩ := x; ⟨dx, c, d, u.at e, h1.up u, u.at h2⟩
end
end SH
/-! R15 -/
set_option Elab.async false
set_option linter.all false
set_option maxRecDepth 100000
set_option maxHeartbeats 4000000
/-! {**d, k: v}: a dict with one entry more or anew. -/
namespace SH
open PySem PySem.Spec PyProof.Rows L2
section
variable {prog : Program} {w : World} {κ : Type} [DecidableEq κ] {knd : KeyKind prog w κ} {A : Around} {E : Value → Shared → Prop} {s : Shared}
theorem dictPut_pairs {d : Addr} {kvs : List (κ × Value)} {k : κ} {key v : Value} {Q : Unit → Shared → Prop} (hkey : knd.is k key = true) (hm : s.heap.DictOf knd d kvs)
    (hQ : ∀ h', h'.DictOf knd d (stored kvs k v) → Heap.SameBut d s.heap h' → Q () { s with heap := h' })
    (hsz : kvs.length ≤ sizeLine) : wpAny (model prog w) A (dictPut d (knd.hash k) key v) Q E s := by
  obtain ⟨o, es, ep, ho, hc, hd, hk, hp, hn⟩ := hm
  have hes : es.size ≤ sizeLine := by have e1 := hp.length; have e2 : es.toList.length = es.size := by simp
                                      omega
  unfold dictPut
  refine wpAny_bind (wpAny_dictFind_of hkey ho hd hk ?_)
  have hidx : (es.findIdx? fun e => knd.is k e.key) = kvs.findIdx? fun kv => decide (kv.1 = k) := by
    rw [← hp.findIdx k]; obtain ⟨l⟩ := es; simp
  cases hi : es.findIdx? fun e => knd.is k e.key with
  | some i =>
    refine wpAny_updateDict ho hd (hQ _ ⟨_, _, ep, Heap.get?_update_self _ ho (Obj.isFreed_of_dict (Obj.data_mapDict hd _)),
      hc.mapDict _, Obj.data_mapDict hd _, hk.modify _ _, ?_, ?_⟩ (Heap.SameBut.update ..))
    · rw [stored, if_pos (any_of_findIdx_some (hidx ▸ hi))]
      have hl : (es.toList.findIdx? fun e => knd.is k e.key) = some i := by rw [← hi]; obtain ⟨l⟩ := es; simp
      have := hp.modify hn hl v
      obtain ⟨l⟩ := es
      simpa using this
    · rw [stored, if_pos (any_of_findIdx_some (hidx ▸ hi)), keys_map_store]; exact hn
  | none =>
    have hnot : k ∉ kvs.map (·.1) := not_mem_of_findIdx_none (hidx ▸ hi)
    have hany : ¬ (kvs.any fun kv => decide (kv.1 = k)) = true := by
      rw [List.any_eq_true]; rintro ⟨kv, hkv, he⟩
      exact hnot (List.mem_map.mpr ⟨kv, hkv, of_decide_eq_true he⟩)
    refine wpAny_updateDictKeys (hz := hes) ho hd (hQ _ ⟨_, _, ep + 1, Heap.get?_update_self _ ho (Obj.isFreed_of_dict (Obj.data_mapDictKeys hd _)),
      hc.mapDictKeys _, Obj.data_mapDictKeys hd _, hk.push hkey _, ?_, ?_⟩ (Heap.SameBut.update ..))
    · rw [stored, if_neg hany]
      have := hp.append hkey (knd.hash k) v
      obtain ⟨l⟩ := es
      simpa using this
    · rw [stored, if_neg hany, List.map_append, List.nodup_append]
      refine ⟨hn, by simp, ?_⟩
      intro a ha b hb
      simp only [List.map_cons, List.map_nil, List.mem_singleton] at hb
      subst hb
      exact fun e => hnot (e ▸ ha)
theorem pairs_at {es : List DictEntry} {kvs : List (κ × Value)} (h : Pairs knd es kvs) : ∀ {i : Nat} {e : DictEntry}, es[i]? = some e → ∃ k, kvs[i]? = some (k, e.val) ∧ knd.is k e.key = true := by
  induction h with
  | nil => intro i e h; simp at h
  | @cons e0 kv es kvs h1 h2 _ ih =>
    intro i e h
    cases i with
    | zero =>
      simp only [List.getElem?_cons_zero, Option.some.injEq] at h
      subst h
      exact ⟨kv.1, by rw [List.getElem?_cons_zero, h2], h1⟩
    | succ j =>
      rw [List.getElem?_cons_succ] at h
      obtain ⟨k, q, r⟩ := ih h
      exact ⟨k, by rw [List.getElem?_cons_succ]; exact q, r⟩
theorem merged_snoc (acc : List (κ × Value)) (l : List (κ × Value)) (kv : κ × Value) : merged acc (l ++ [kv]) = stored (merged acc l) kv.1 kv.2 := by
  unfold merged; rw [List.foldl_append]; rfl
theorem merged_len : ∀ (l acc : List (κ × Value)), (merged acc l).length ≤ acc.length + l.length
  | [], acc => by show acc.length ≤ acc.length + 0; omega
  | kv :: l, acc => by
    have h1 := merged_len l (stored acc kv.1 kv.2)
    have h2 := stored_length_le acc kv.1 kv.2
    show (merged (stored acc kv.1 kv.2) l).length ≤ _
    rw [List.length_cons]; omega
theorem dict_sub : isSubtype (.type "dict") (.type "dict") = pure true := by rw [isSubtype_type]; kernel_rfl
/-- the entries of a dict go into another one -/
theorem merge_dicts {d a : Addr} {ks vs : List (κ × Value)} {Q : Unit → Shared → Prop} (hne : d ≠ a) (ha : (a == sysModules) = false) (hr : ∀ (k : κ) (v : Value), knd.is k v = true → ∀ b, v ≠ .ref b)
    (hD : s.heap.DictOf knd d ks) (hA : s.heap.DictOf knd a vs) (hsz : ks.length + vs.length ≤ sizeLine)
    (hQ : ∀ h', h'.DictOf knd d (merged ks vs) → Heap.SameBut d s.heap h' → Q () { s with heap := h' }) : wpAny (model prog w) A (mergeMapping d (.ref a) false) Q E s := by
  obtain ⟨oa, ea, pa, hoa, hca, hda, hka, hpa, hna⟩ := hA
  obtain ⟨od, ed, pd, hod, hcd, hdd, hkd, hpd, hnd⟩ := hD
  have hty : s.TypeIs (.ref a) "dict" := ⟨oa, hoa, hca.1⟩
  unfold mergeMapping
  refine wpAny_bind (wpAny_isInstance hty dict_sub ?_)
  dsimp only
  rw [if_pos rfl]
  refine wpAny_bind (wpAny_specialOf hty F.slot_dict_iter.lookup ?_)
  rw [show (some (Value.builtin "dict.__iter__") == some (Value.builtin "dict.__iter__")) = true from by decide +kernel]
  simp only [pure_bind]
  rw [if_neg (by rw [ha]; exact Bool.false_ne_true)]
  have main : wpAny (model prog w) A (do
      let size := (← dictEntries a).size
      let epoch ← dictEpoch a
      for i in List.range size do
        let some e := (← dictEntries a)[i]? | unsupported "dict.changed-during-merge"
        holding [e.key, e.val] do
          if false then
            if (← dictFind d e.key e.hash).isSome then rule "dict.merge.duplicate-key"; raiseNew (← newExc (.type "KeyError") [e.key])
          dictPut d e.hash e.key e.val
        if (← dictEpoch a) != epoch then unsupported "dict.changed-during-merge") Q E s := by
    refine wpAny_bind (wpAny_dictEntries hoa hda (wpAny_bind (wpAny_dictEpoch hoa hda ?_)))
    dsimp only
    refine wpAny_bind (wpAny_forIn_list _ (fun rest (_ : PUnit) s' => ∃ i h', rest = (List.range ea.size).drop i ∧ i ≤ ea.size ∧ s' = { s with heap := h' } ∧ h'.DictOf knd d (merged ks (vs.take i)) ∧ Heap.SameBut d s.heap h') _ ?_ ?_ _ _
      ⟨0, s.heap, rfl, Nat.zero_le _, rfl, ⟨od, ed, pd, hod, hcd, hdd, hkd, hpd, hnd⟩, Heap.SameBut.refl _ _⟩)
    · rintro x rest b s' ⟨i, h', hx, hi, rfl, hm, hs⟩
      have hix : i < ea.size := by
        rcases Nat.lt_or_ge i ea.size with h | h
        · exact h
        · rw [List.drop_eq_nil_of_le (by rw [List.length_range]; exact h)] at hx; cases hx
      rw [List.drop_eq_getElem_cons (by rw [List.length_range]; exact hix)] at hx
      obtain ⟨hx1, hx2⟩ := List.cons.inj hx
      rw [List.getElem_range] at hx1
      subst hx1
      have hoa' : h'.get? a = some oa := (hs.2 a (Ne.symm hne)).trans hoa
      refine wpAny_bind (wpAny_dictEntries (s := { s with heap := h' }) hoa' hda ?_)
      rw [Array.getElem?_eq_getElem hix]
      dsimp only
      obtain ⟨k, hk1, hk2⟩ := pairs_at hpa (i := x) (e := ea[x]) (by rw [Array.getElem?_toList, Array.getElem?_eq_getElem hix])
      obtain ⟨k', hk3, hk4⟩ := hka ea[x] (Array.getElem_mem hix)
      obtain rfl : k = k' := knd.inj _ _ _ hk2 hk3
      refine wpAny_bind (wpAny_holding ?_)
      try simp only [Bool.false_eq_true, if_false]
      rw [hk4]
      have hxl : x < vs.length := (List.getElem?_eq_some_iff.mp hk1).1
      have htk : vs.take (x + 1) = vs.take x ++ [(k, ea[x].val)] := by
        rw [List.take_succ, hk1]; rfl
      have hlen := merged_len (vs.take x) ks
      have hl2 : (vs.take x).length ≤ vs.length := by rw [List.length_take]; omega
      try refine wpAny_bind (wpAny_pure ?_)
      refine dictPut_pairs (s := { s with heap := h' }) hk2 hm (fun h2 hm2 hs2 => ?_) (by omega)
      have hoa2 : h2.get? a = some oa := (hs2.2 a (Ne.symm hne)).trans hoa'
      refine wpAny_bind (wpAny_dictEpoch (s := { s with heap := h2 }) hoa2 hda ?_)
      rw [if_neg (by simp)]
      refine wpAny_pure ?_
      refine ⟨x + 1, h2, hx2, hix, rfl, ?_, hs.trans hs2⟩
      rw [htk, merged_snoc]
      exact hm2
    · rintro b s' ⟨i, h', hx, hi, rfl, hm, hs⟩
      have hix : ea.size ≤ i := by
        rcases Nat.lt_or_ge i ea.size with h | h
        · rw [List.drop_eq_getElem_cons (by rw [List.length_range]; exact h)] at hx; cases hx
        · exact h
      have hvl : ea.size = vs.length := by have := hpa.length; rw [Array.length_toList] at this; exact this
      rw [List.take_of_length_le (by omega)] at hm
      exact wpAny_pure (hQ h' hm hs)
  refine wpAny_bind (wpAny_dictEntries hod hdd ?_)
  try dsimp only
  by_cases hem : ed.isEmpty = true
  · rw [if_pos hem]
    refine wpAny_bind (wpAny_dictEntries hoa hda ?_)
    rw [← Array.forIn_toList]
    refine wpAny_bind (wpAny_forIn_list _ (fun rest (_ : PUnit) s' => s' = s ∧ ∀ e ∈ rest, e ∈ ea) _ ?_ ?_ _ _ ?_)
    · rintro x rest b s' ⟨rfl, hmem⟩
      obtain ⟨k, hk, _⟩ := hka x (hmem x List.mem_cons_self)
      have hnr := hr k _ hk
      have hmem' : ∀ e ∈ rest, e ∈ ea := fun e he => hmem e (List.mem_cons_of_mem _ he)
      split
      · exact absurd (by assumption) (hnr _)
      · exact wpAny_pure ⟨rfl, hmem'⟩
    · rintro b s' ⟨rfl, _⟩
      exact main
    · exact ⟨rfl, fun e he => by simpa using he⟩
  · rw [if_neg hem]
    exact main
end
/-- {**d, k: v} -/
def tStar (td tk tv : TE) : TE := fun σ H Q => ∀ p, H p = none → td σ (upd H p (.dK [])) fun x H1 => ∃ (a : Addr) (kvs : List (Key × V)), x = .ref a ∧ H1 p = some (.dK []) ∧ a ≠ p ∧ Rd H1 a (.dK kvs) ∧ kvs.length < sizeLine ∧
  ∀ q, (upd H1 p (.dK (mergeK [] kvs))) q = none → tk σ (upd (upd H1 p (.dK (mergeK [] kvs))) q (.dK [])) fun y H2 => tv σ H2 fun z H3 => ∃ k : Key, y = kV k ∧ H3 p = some (.dK (mergeK [] kvs)) ∧ H3 q = some (.dK []) ∧
    Q (.ref p) (upd (upd H3 q (.dK [(k, z)])) p (.dK (putK (mergeK [] kvs) k z)))
theorem keyIs_noref (P : Program) (w : World) (k : Key) (v : Value) (h : (mixKind P w).is k v = true) (b : Addr) : v ≠ .ref b := by
  intro z; subst z
  rcases keyIs_shape h with ⟨i, t, _, e⟩ | ⟨x, t, _, e⟩ <;> cases e
theorem pe_star {X : Cx} {pos : Pos} {d k v : Expr} {td tk tv : TE} (hd : PE X d td) (hk : PE X k tk) (hv : PE X v tv) : PE X (.Dict [none, some k] [d, v] pos) (tStar td tk tv) := by
  refine ⟨fun pins s σ H Q I q => ?_⟩
  rw [arm_eval_Dict]
  refine wpAny_bind (wpAny_standAt ?_)
  show wpAny _ _ (dictDisplay [(none, do let x ← eval d X.env; standAt pos; pure x), (some (eval k X.env), do let x ← eval v X.env; standAt pos; pure x)]) _ _ _
  unfold dictDisplay
  dsimp only
  rw [List.forIn_cons]
  refine wpAny_bind (wpAny_bind (wpAny_bind ?_))
  dsimp only
  rw [if_pos (show ([] : List (Sem Value × Sem Value)).isEmpty = true from rfl)]
  refine wpAny_pure ?_
  refine wpAny_bind (wpAny_alloc ?_)
  have hp := I.hok.fresh (Nat.le_refl s.heap.objs.size)
  have I1 := I.laid (a := s.heap.objs.size) (o := .dK []) (h' := s.heap.push { cls := .type "dict", data := .dict #[] }) (t' := s.toks) (fun _ _ q => Heap.get?_push_of_some _ q) (Nat.le_refl _) (dk_empty s.heap I.big)
  refine wpAny_bind (wpAny_holding (wpAny_bind (thn (hd.run pins _ σ _ _ I1 (q _ hp)) fun u s2 ⟨x, H1, I2, rx, a, kvs, ex, e1, hne, era, hz, q2⟩ => wpAny_bind (wpAny_standAt (wpAny_pure ?_)))))
  subst ex
  cases (show u = Value.ref a from rx)
  generalize s.heap.objs.size = p at *
  obtain ⟨za, hda, vsa, rela, dda⟩ := dk_rd I2.hok era
  obtain ⟨zp, hdp, vsp, relp, ddp⟩ := dk_of I2.hok e1
  cases relp
  have hz1 : (mergeK [] kvs).length ≤ sizeLine := Nat.le_trans (length_mergeK kvs []) (by rw [List.length_nil]; omega)
  refine wpAny_bind (wpAny_onRaise (wpAny_tryCatch (wpAny_onRaise (wpAny_holding (merge_dicts (knd := mixKind X.prog X.w) (Ne.symm hne) hda (keyIs_noref X.prog X.w) ddp dda (by rw [List.length_nil, ← rela.length]; omega) fun h1 dd1 hs1 => ?_)))))
  have he1 : ∃ q, h1.get? p = some q := let ⟨q, _, _, hq, _⟩ := dd1; ⟨q, hq⟩
  have I3 := d_write (t' := s2.toks) I2 (by rw [e1]; exact True.intro) hs1 he1 (dk_new hz1 hdp (rela.merge .nil) dd1)
  refine wpAny_pure ?_
  dsimp only
  rw [List.forIn_cons]
  refine wpAny_bind ?_
  dsimp only
  refine wpAny_ite_split (fun hc => absurd (show ((1 : Nat) == 17) = true from hc) (by decide)) (fun _ => ?_)
  refine wpAny_pure ?_
  dsimp only
  rw [List.forIn_nil]
  refine wpAny_pure ?_
  refine wpAny_bind ?_
  dsimp only
  refine wpAny_ite_split (fun hc => absurd hc Bool.false_ne_true) (fun _ => ?_)
  have hqn : (upd H1 p (.dK (mergeK [] kvs))) h1.objs.size = none := I3.hok.fresh (Nat.le_refl _)
  have I4 := I3.laid (a := h1.objs.size) (o := .dK []) (h' := h1.push { cls := .type "dict", data := .dict #[] }) (t' := s2.toks) (fun _ _ q => Heap.get?_push_of_some _ q) (Nat.le_refl _) (dk_empty h1 I3.big)
  have q3 := q2 h1.objs.size hqn
  refine wpAny_bind (wpAny_holding (wpAny_subDict (knd := mixKind X.prog X.w) (by show (1 : Nat) ≤ 15; decide) ?_))
  refine wpAny_mono (Q := fun vs s' => ∃ ps H', L2.Inv X pins σ H' s' ∧ VV ps vs ∧ (∃ y z, ps = [(y, z)] ∧ ∃ kk : Key, y = kV kk ∧ H' p = some (.dK (mergeK [] kvs)) ∧ H' h1.objs.size = some (.dK []) ∧ Q (.ref p) (upd (upd H' h1.objs.size (.dK [(kk, z)])) p (.dK (putK (mergeK [] kvs) kk z)))))
    (evalPairs_cons (thn (hk.run pins _ σ _ _ I4 q3) fun u1 s5 ⟨y, H5, I5, r5, q5⟩ => wpAny_bind (thn (hv.run pins s5 σ H5 _ I5 q5) fun u2 s6 ⟨z, H6, I6, r6, q6⟩ => wpAny_bind (wpAny_standAt (wpAny_pure (evalPairs_nil ⟨[(y, z)], H6, I6, .cons ⟨r5, r6⟩ .nil, y, z, rfl, q6⟩))))))
    (fun vs s6 h6 => ?_) (fun _ _ e => e)
  obtain ⟨ps, H6, I6, rel6, y, z, eps, kk, ey, e6, e7, q6⟩ := h6
  subst eps ey
  obtain ⟨rs, cs, rk⟩ := carries_of (P := X.prog) (w := X.w) (kvs := [(kk, z)]) rel6
  obtain ⟨zq, hdq, vs0, r0, ddq⟩ := dk_of I6.hok e7
  cases r0
  refine ⟨rs, cs, ddq, fun h' dd' hs => ?_⟩
  have heq : ∃ q, h'.get? h1.objs.size = some q := let ⟨q, _, _, hq, _⟩ := dd'; ⟨q, hq⟩
  have rk1 : KV (mergeK [] [(kk, z)]) (merged [] rs) := rk.merge .nil
  have I7 := d_write (t' := s6.toks + vs.length) I6 (by rw [e7]; exact True.intro) hs heq (dk_new (kvs := mergeK [] [(kk, z)]) (show 1 ≤ sizeLine by rw [sizeLine_eq]; decide) hdq rk1 dd')
  have hpq : p ≠ h1.objs.size := fun e => by
    rw [← e, upd_same] at hqn; cases hqn
  have e8 : (upd H6 h1.objs.size (.dK (mergeK [] [(kk, z)]))) p = some (.dK (mergeK [] kvs)) := by rw [upd_ne hpq]; exact e6
  obtain ⟨zp2, hdp2, vsp2, relp2, ddp2⟩ := dk_of I7.hok e8
  have hl9 : (putK (mergeK [] kvs) kk z).length ≤ sizeLine := by
    have h1 := length_putK (mergeK [] kvs) kk z
    have h2 := length_mergeK kvs []
    rw [List.length_nil] at h2
    omega
  have hz9 : vsp2.length + (merged [] rs).length ≤ sizeLine := by
    have h2 := length_mergeK kvs []
    rw [List.length_nil] at h2
    have h3 := relp2.length
    have h4 := merged_len rs []
    have h5 := rk.length
    simp only [List.length_cons, List.length_nil] at h4 h5
    omega
  refine wpAny_bind (wpAny_onRaise (wpAny_holding (merge_dicts (s := { s6 with heap := h', toks := s6.toks + vs.length }) (knd := mixKind X.prog X.w) hpq hdq (keyIs_noref X.prog X.w) ddp2 dd' hz9 fun h9 dd9 hs9 => ?_)))
  have he9 : ∃ q, h9.get? p = some q := let ⟨q, _, _, hq, _⟩ := dd9; ⟨q, hq⟩
  have I9 := d_write (t' := s6.toks + vs.length) I7 (by rw [e8]; exact True.intro) hs9 he9 (dk_new (by exact hl9) hdp2 (rk1.merge relp2) dd9)
  exact wpAny_pure (wpAny_pure ⟨.ref p, _, I9, rfl, q6⟩)
end SH
/-! R3 -/
set_option Elab.async false
set_option linter.all false
set_option maxRecDepth 100000
set_option maxHeartbeats 4000000
/-! a lambda as an expression; min(.., key=lambda ..). -/
namespace SH
open PySem PySem.Spec PyProof.Rows L2 LamX NdefX
/-- the lambda made by the running frame X -/
abbrev mkL (X : Cx) (params : Arguments) (body : Expr) (scope : Scope) (c' : Addr) : LF := ⟨X.env.qual ++ "<lambda>", params, body, scope, cloFrom X.env.cells scope.names [], c'⟩
def tLamE (TT : List (Addr × Str)) (mk : Addr → LF) : TE := fun σ H Q => Tabs TT H ∧ ∀ (f c' : Addr) (H1 : Hp), ExtN H H1 → Tabs TT H1 → H f = none → H1 f = some (LamO f (mk c')) → H1 c' = some (CodeO c' (mk c').qual) → Q (.ref f) H1
/-- what a lambda's text must have -/
structure LamT (X : Cx) (TT : List (Addr × Str)) (params : Arguments) (scope : Scope) (fr : List Str) (js : List Nat) : Prop where
  tb : ∃ c P, TabB X.base X.mg c P ∧ X.env.code = .ref c ∧ (P, X.env.qual ++ "<lambda>") ∈ TT ∧ ∀ p ∈ TT, p.1 = P → p.2 = X.env.qual ++ "<lambda>"
  dflt : defaultsOf params X.env = ([], [])
  free : ∀ y ∈ scope.names, y.2 = .free → X.env.scope.names.lookup y.1 = some .cell ∨ X.env.scope.names.lookup y.1 = some .free
  frs : ∀ y ∈ fr, (y, NameKind.free) ∈ scope.names
  js : js.map (fun j => X.N[j]?) = fr.map some
section
variable {X : Cx} {TT : List (Addr × Str)} {params : Arguments} {body : Expr} {scope : Scope} {fr : List Str} {js : List Nat} {lpos pos p kpos : Pos}
theorem pe_lam (L : LamT X TT params scope fr js) : PE X (.Lambda params body scope lpos) (tLamE TT (mkL X params body scope)) := by
  refine ⟨fun pins s σ H Q I h => ?_⟩
  obtain ⟨hT, h⟩ := h
  obtain ⟨c, P, TB, hcode, hm, hu⟩ := L.tb
  have hfr : ∀ y ∈ scope.names, y.2 = .free → ∃ c, X.env.cells.lookup y.1 = some c := fun y hy e => (L.free y hy e).elim (fun z => I.ok.has _ (.inl z)) fun z => I.ok.has _ (.inr z)
  exact lam_make3 I TB hcode hm hu hT L.dflt hfr fun f c' H1 s' I1 eN T1 f0 f1 c1 => ⟨.ref f, H1, I1, rfl, h f c' H1 eN T1 f0 f1 c1⟩
/-- min(e, key=lambda x: (.., x)) -/
def tMinLam (TT : List (Addr × Str)) (N : List Str) (js : List Nat) (te tb : TE) : TE := fun σ H Q => te σ H fun v H1 => ∃ (a : Addr) (ns : List Str) (lev : Str → Int), v = .ref a ∧ H1 a = some (.lst (ns.map V.str)) ∧ ns ≠ [] ∧ Tabs TT H1 ∧
  ∀ H2, ExtN H1 H2 → Tabs TT H2 →
    (∀ n ∈ ns, ∀ (H3 : Hp) (Q' : VK), (∀ b o, b ≠ a → H2 b = some o → H3 b = some o) → (∀ p, H3 p = none → Q' (.ref p) (upd H3 p (.tup [.int (lev n), .str n]))) → tb (startF N [.str n] (js.map (slotAt σ))) H3 Q') ∧
    (∀ m ∈ ns, (∀ n ∈ ns, n ≠ m → klt (lev m, m) (lev n, n)) → ∀ H3, (∀ b o, H2 b = some o → H3 b = some o) → Q (.str m) H3)
theorem pe_minlam {N : List Str} {x : Str} {e : Expr} {te tb : TE} {k : Nat} (hm : X.mg "min" = none) (hg : Gl X "min") (he : PE X e te) (L : LamT X TT params scope fr js) (S : NScope N [x] fr scope)
    (hb : ∀ (q : Str) (cl : List (Str × Addr)) (pm cv ctv : Value) (us : List Value), us.length = [x].length → bindArgs (PySem.W.kla_fn "<lambda>" q params body scope cl pm cv ctv) ⟨us, []⟩ = pure ([x].zip us))
    (hr : Room (k + 2) X.A)
    (hbody : ∀ (A : Around) (outer : List Env) (s : Shared) (H : Hp) (f c' : Addr), Room k (A.deeper (envF (mkL X params body scope c').nf f s.heap.objs.size)) → PE (ncx CX0 X.prog X.w X.K X.mg X.base N (mkL X params body scope c').nf f A outer s H E0) body tb)
    (hs0 : starEach [e] X.env = (false, eval e X.env) :: starEach [] X.env := by rfl) (hst : backTo pos (starEach [e] X.env) = (false, eval e X.env) :: backTo pos (starEach [] X.env) := by rfl) :
    PE X (.Call (.Name "min" p) [e] [⟨some "key", .Lambda params body scope lpos, kpos⟩] pos) (tMinLam TT N js te tb) := by
  refine ⟨fun pins s σ H Q I h => ?_⟩
  refine wpAny_Call_Name_kw (ld_blt I hg hm PyProof.Rows.Boot.«min» ?_ (by decide) (by decide))
  have hpa : PA X [e] (tCons te tNil) := pa_cons he pa_nil hs0
  have hpk : PK X [⟨some "key", .Lambda params body scope lpos, kpos⟩] (tCons (tLamE TT (mkL X params body scope)) tNil) := pk_cons (pe_lam L) pk_nil
  refine PyProof.Rows.callWith_kw (thn (hpa.run pos pins s σ H (fun vs H1 => ∃ (a : Addr) (ns : List Str) (lev : Str → Int), vs = [.ref a] ∧ H1 a = some (.lst (ns.map V.str)) ∧ ns ≠ [] ∧ Tabs TT H1 ∧
    ∀ H2, ExtN H1 H2 → Tabs TT H2 →
    (∀ n ∈ ns, ∀ (H3 : Hp) (Q' : VK), (∀ b o, b ≠ a → H2 b = some o → H3 b = some o) → (∀ p, H3 p = none → Q' (.ref p) (upd H3 p (.tup [.int (lev n), .str n]))) → tb (startF N [.str n] (js.map (slotAt σ))) H3 Q') ∧
    (∀ m ∈ ns, (∀ n ∈ ns, n ≠ m → klt (lev m, m) (lev n, n)) → ∀ H3, (∀ b o, H2 b = some o → H3 b = some o) → Q (.str m) H3)) I ?_) fun us s1 ⟨vs, H1, I1, r1, q1⟩ => ?_) hst (by show (backTo pos (starEach [e] X.env)).any (·.1) = false; rw [hst]; rfl) rfl rfl
  · show te σ H _
    have := h
    unfold tMinLam at this
    have e : (fun v H1 => (fun xs H2 => ∃ (a : Addr) (ns : List Str) (lev : Str → Int), (v :: xs) = [V.ref a] ∧ H2 a = some (.lst (ns.map V.str)) ∧ ns ≠ [] ∧ Tabs TT H2 ∧
      ∀ H3, ExtN H2 H3 → Tabs TT H3 →
      (∀ n ∈ ns, ∀ (H4 : Hp) (Q' : VK), (∀ b o, b ≠ a → H3 b = some o → H4 b = some o) → (∀ p, H4 p = none → Q' (.ref p) (upd H4 p (.tup [.int (lev n), .str n]))) → tb (startF N [.str n] (js.map (slotAt σ))) H4 Q') ∧
      (∀ m ∈ ns, (∀ n ∈ ns, n ≠ m → klt (lev m, m) (lev n, n)) → ∀ H4, (∀ b o, H3 b = some o → H4 b = some o) → Q (.str m) H4)) [] H1) = fun v H1 => ∃ (a : Addr) (ns : List Str) (lev : Str → Int), v = .ref a ∧ H1 a = some (.lst (ns.map V.str)) ∧ ns ≠ [] ∧ Tabs TT H1 ∧
      ∀ H3, ExtN H1 H3 → Tabs TT H3 →
      (∀ n ∈ ns, ∀ (H4 : Hp) (Q' : VK), (∀ b o, b ≠ a → H3 b = some o → H4 b = some o) → (∀ p, H4 p = none → Q' (.ref p) (upd H4 p (.tup [.int (lev n), .str n]))) → tb (startF N [.str n] (js.map (slotAt σ))) H4 Q') ∧
      (∀ m ∈ ns, (∀ n ∈ ns, n ≠ m → klt (lev m, m) (lev n, n)) → ∀ H4, (∀ b o, H3 b = some o → H4 b = some o) → Q (.str m) H4) := by
      funext v H1
      simp
    exact e ▸ this
  · obtain ⟨a, ns, lev, rfl, ha, hne, hT, q⟩ := q1
    obtain rfl := Vals.ref1 r1
    refine thn (hpk.run pos pins s1 σ H1 (fun zs H2 => ∃ f c', zs = [.ref f] ∧ ExtN H1 H2 ∧ Tabs TT H2 ∧ H2 f = some (LamO f (mkL X params body scope c')) ∧ H2 c' = some (CodeO c' (mkL X params body scope c').qual)) I1 ⟨hT, fun f c' H2 e1 e2 e3 e4 e5 => ⟨f, c', rfl, e1, e2, e4, e5⟩⟩) fun ws s2 ⟨zs, H2, I2, r2, f, c', ez, e1, e2, e4, e5⟩ => ?_
    subst ez
    obtain rfl := Vals.ref1 r2
    show wpAny _ _ (call (.builtin "min") [.ref a] [(Str.ofString "key", .ref f)]) _ _ _
    obtain ⟨q1, q2⟩ := q H2 e1 e2
    exact min_run (F := mkL X params body scope c') (k := k) I2 S (fun pm ctv us hl => hb _ _ pm _ ctv us hl) hr (Caps.made I2.ok L.free L.frs L.js) (fun A outer s H hr => hbody A outer s H f c' hr) e4 e5 (e1 a _ ha (fun ps z => nomatch z)) hne q1 q2
end
end SH
/-! R5 -/
set_option Elab.async false
set_option linter.all false
set_option maxRecDepth 100000
set_option maxHeartbeats 4000000
/-! an own exception's __init__ that says super().__init__('..') and keeps a field. -/
namespace SH
open PySem PySem.Spec PyProof.Rows L2 LamX NdefX
open PySem.W (clsIn mroIn subIn nsIn ks_superIn KxsFacts kxs_mw kxs_ValueError)
theorem lookup1 {α : Type} (k y : Str) (v : α) : [(k, v)].lookup y = if y = k then some v else none := by
  by_cases h : y = k
  · subst h
    simp [List.lookup]
  · have e : (y == k) = false := by simpa using h
    rw [if_neg h]
    simp [List.lookup, e]
/-- what the written part tells of such a class and its __init__ -/
structure XInit (prog : Program) (K : PySem.W.Frag) (C : Addr) (qual : Str) (st : Stmt) (f : Addr) (fd : FuncData) : Prop where
  lk : ∃ (oc : Value) (od : Option Addr) (doc pm ct : Value) (an : Option Addr) (osl : Array (Option Value)) (cda cc : Addr) (vs : Array Value) (file : Str) (tf : Tok) (ccl cl : Value) (cdd cld : Option Addr) (ccs csl : Array (Option Value)),
    fd = PySem.W.ksFn "__init__" qual (defArgs st) (defBody st) (defScope st) .none .none doc pm an (.ref cda) ct cc ∧
    K.lookup f = some ⟨oc, od, .func fd, osl⟩ ∧ PySem.W.codeIn K (.ref cda) qual = true ∧
    K.lookup cda = some ⟨ccl, cdd, .fields vs, ccs⟩ ∧ vs[2]? = some (.str file tf) ∧ ((prog.main.file : Str) == file) = true ∧ K.lookup cc = some ⟨cl, cld, .cell (some (.ref C)), csl⟩
  sup : mroIn K C (.ref C) = some true
  along : ks_superIn K C C "__init__" = some (some (.builtin "ValueError.__init__"))
  isV : subIn K (.ref C) (.type "ValueError") = some true
  opq : nsIn K cStatics "thirdparty.any" = some none
/-- the promise: a field is kept -/
def spXI (C : Addr) (fld : Str) : Sp := fun vs H Q _ => ∃ (a : Addr) (y : V), vs = [.ref a, y] ∧ H a = some (exo a C none) ∧ ∀ dx, H dx = none → dx ≠ a → Q .non (upd (upd H dx (exd dx [(fld, y)])) a (exo a C (some dx)))
section
variable {prog : Program} {w : World} {A : Around} {E : Value → Shared → Prop} {h : Heap} {g : Array GenState} {d : Drawn} {t : Nat} {os : OsState}
/-- the wrapper called -/
theorem call_mwV {nm q : Str} {C N u e t0 : Addr} {bs bm : List Value} {hdct : Bool} {sn : List Str} {sub : List Value} {ab : Bool} {col : Option Bool} {dd : Option Addr} {k0 k1 k2 k3 k5 : Option Value} {rest : List Value} {Q : Value → Shared → Prop}
    (hC : h.get? C = some (excClassObj nm q C N bs bm hdct sn sub ab col dd k0 k1 k2 k3 k5 "ValueError.__new__")) (he : h.get? e = some (PySem.HandSPX.excO C t0)) (hu : h.get? u = some (kxs_mw "ValueError.__init__" e)) (hrest : rest.length ≤ sizeLine)
    (hq : ∀ h' t1, (∀ b o, b ≠ e → h.get? b = some o → h'.get? b = some o) → h'.get? e = some (PySem.HandSPX.excO C t1) → Q .none ⟨h', g, d, t, os⟩) :
    wpAny (model prog w) A (call (.ref u) rest) Q E ⟨h, g, d, t, os⟩ := by
  refine wpAny_call (codeAny_of_tree ?_)
  show wpAny _ A.in1 (callAny (.ref u) ⟨rest, []⟩) _ _ _
  simp only [callAny]
  refine wpAny_bind (wpAny_load hu ?_)
  simp only [kxs_mw, show (Value.type "method-wrapper" == Value.type "method" || Value.type "method-wrapper" == Value.type "builtin_function_or_method" || Value.type "method-wrapper" == Value.type "method-wrapper") = true by decide, if_true]
  refine PySem.W.KFB.if_so (by decide) ?_
  refine wpAny_bind (PySem.W.check_bound_init F.excBase_ValueError.toExcCallFacts hC he rfl ?_)
  refine wpAny_bind (wpAny_pure (wpAny_pure ?_))
  refine ⟨plainId_quiet F.excBase_ValueError.init.plain _, codeAny_builtin F.excBase_ValueError.initEntry ?_⟩
  exact PySem.W.exc_init_tree (cls := .ref C) (t0 := t0) (dv := none) (c2 := .none) (c3 := .none) (b4 := .bool false) he hrest fun h' k e' _ => hq h' _ k e'
end
section
variable {CX : CXT} {P : Program} {w : World} {K : PySem.W.Frag} {mg : Str → Option Value} {base : Heap} {k : Nat} {f C : Addr} {fd : FuncData} {qual fld y : Str} {st : Stmt}
theorem xi_fn {msg : Str} {j : Nat} {p0 p1 p2 p3 p4 p5 p6 p7 p8 p9 : Pos} (X : XInit P K C qual st f fd) (T : OexC K C) (hsu : mg "super" = none) (htop : (P.main.scope.names.lookup ("super" : Str)).isSome = false)
    (hno : PySem.W.findIn K (.ref C) fld = some none)
    (hbody : defBody st = [.Expr (.Call (.Attribute (.Call (.Name "super" p0) [] [] p1) "__init__" p2) [.Constant (.str msg) j p3] [] p4) p5, .Assign [.Attribute (.Name "self" p6) fld p7] (.Name y p8) p9])
    (S : NScope ["self", y, "__class__"] ["self", y] ["__class__"] (defScope st)) (hks : (defScope st).names.lookup ("super" : Str) = some .globalImplicit)
    (hpar : ((defArgs st).posonlyargs ++ (defArgs st).args).head?.map (·.arg) = some ("self" : Str)) (hyd : (y == ("__debug__" : Str)) = false) (hyc : (y == ("__classdict__" : Str)) = false)
    (hsw : ∀ env : Env, swapsWith (.Name y p8) (some (.Attribute (.Name "self" p6) fld p7)) p9.line env = pure false)
    (hint : ∀ (L f' cd cc : Addr), interactive (PySem.W.ksEnv qual (defScope st) L f' (.ref cd) cc) = false)
    (hev : ∀ (L f' cd cc : Addr), ∃ pl : Sem Bool, eval (.Call (.Attribute (.Call (.Name "super" p0) [] [] p1) "__init__" p2) [.Constant (.str msg) j p3] [] p4) (PySem.W.ksEnv qual (defScope st) L f' (.ref cd) cc) = (do
      let ov ← attributeBase (.Call (.Name "super" p0) [] [] p1) "__init__" (PySem.W.ksEnv qual (defScope st) L f' (.ref cd) cc) (eval (.Call (.Name "super" p0) [] [] p1) (PySem.W.ksEnv qual (defScope st) L f' (.ref cd) cc))
      standAt p2.atName
      let (f, first) ← holding [ov] (getMethod ov "__init__" pl)
      callWith p4 f first (backTo p4 (starEach [.Constant (.str msg) j p3] (PySem.W.ksEnv qual (defScope st) L f' (.ref cd) cc))) [])) :
    FnOk P w K mg base CX (k + 1) f fd ["self", y] (spXI C fld) := by
  refine ⟨fun vs H Q E h => ?_, fun A outer s H args us vs Q E hr e0 hb r hsp => ?_⟩
  · obtain ⟨a, z, rfl, _⟩ := h
    rfl
  obtain ⟨a, z, rfl, ha, hq⟩ := hsp
  obtain ⟨oc, od, doc, pm, ct, an, osl, cda, cc, vs, file, tf, ccl, cl, cdd, cld, ccs, csl, rfl, lk, hcd, hcode, hvs, hfile, hcell⟩ := X.lk
  obtain ⟨nm, qn, NN, bs, bm, sn, sub, ab, col, dd, k0, k1, k2, k3, k5, hC, hbm⟩ := T.cls
  have hcl : PySem.W.clsIn K C = some { name := nm, bases := bs, mro := .ref C :: bm, ns := NN, qualname := qn, hasDict := true, slotNames := sn, subclasses := sub, abstract := ab, collection := col, hasDel := false } := by unfold PySem.W.clsIn; rw [hC] <;> rfl
  have KX : K.In s.heap := e0.mod.kin.keeps fun b o e => (e0.bs b o e).1
  have KH : ∀ b o, K.lookup b = some o → H b = none := fun b o e => (e0.bs b o (e0.mod.kin b o e)).2
  have lim : s.heap.NoLimit := e0.mod.nolimit.keeps fun b o e => (e0.bs b o e).1
  refine codeAny_call_function hr.depth (KX _ _ lk) rfl S.co S.gen rfl (PySem.W.codeRec_of KX hcd) (hb _ _ _ _ ?_)
  refine wpAny_newFunctionEnv S.nocell (fun ⟨n, _⟩ hy => S.par n (List.of_mem_zip hy).1) (fun h₁ hns hsb => ⟨lim.fresh _ hsb, ks_codeAny_funcAt ?_⟩) S.kind
  have kp : ∀ b o, s.heap.get? b = some o → h₁.get? b = some o := fun b o e => hsb.extBut b o (Nat.ne_of_lt (Heap.lt_size e)) (Heap.get?_push_of_some _ e)
  have CA : CellsAt [(("__class__" : Str), cc)] ["__class__"] [none] s.heap H := by
    have one : ∀ y c, ([(("__class__" : Str), cc)]).lookup y = some c → y = "__class__" ∧ c = cc := fun y c e => by
      rw [lookup1] at e
      by_cases hy : y = "__class__"
      · rw [if_pos hy] at e; cases e; exact ⟨hy, rfl⟩
      · rw [if_neg hy] at e; cases e
    refine ⟨rfl, fun y c e => ?_, fun x y c e1 e2 => (one x c e1).1.trans (one y c e2).1.symm, fun i y e => ?_⟩
    · rw [(one y c e).2]
      exact ⟨KH _ _ hcell, _, _, KX _ _ hcell, rfl⟩
    · cases i with
      | zero =>
        simp at e
        subst e
        exact ⟨cc, by rw [lookup1, if_pos rfl], fun v h => by simp at h⟩
      | succ i => simp at e
  let F : NF := ⟨"__init__", qual, defArgs st, defBody st, defScope st, [("__class__", cc)], cda⟩
  let XX : Cx := ncx CX P w K mg base ["self", y, "__class__"] F f A outer s H E
  have I : Inv XX [] (startF ["self", y, "__class__"] [.ref a, z] [none]) H { s with heap := h₁, toks := s.toks + ((["self", y] : List Str).zip us).length } := inv_startN S hr.hd e0 rfl r CA hns kp
  obtain ⟨t1, hoe⟩ := exo_at I.hok ha
  have hkc : (defScope st).names.lookup ("__class__" : Str) = some .free := S.frk _ List.mem_cons_self
  have hkself : (defScope st).names.lookup ("self" : Str) = some .local := S.par _ List.mem_cons_self
  have hky : (defScope st).names.lookup y = some .local := S.par _ (List.mem_cons_of_mem _ List.mem_cons_self)
  obtain ⟨ar, har, hara⟩ : ∃ ar : Arg, ((defArgs st).posonlyargs ++ (defArgs st).args).head? = some ar ∧ ar.arg = "self" := by
    cases e : ((defArgs st).posonlyargs ++ (defArgs st).args).head? with
    | none => rw [e] at hpar; cases hpar
    | some ar => rw [e] at hpar; exact ⟨ar, rfl, Option.some.inj hpar⟩
  obtain ⟨mb, hmb1, hmb2⟩ := e0.mod.blt
  show _root_.PySem.wpAt (model P w) (A.deeper XX.env) (.func (defBody st) XX.env) (execs (defBody st) XX.env) _ _ _
  rw [hbody]
  obtain ⟨pl, hpl⟩ := hev s.heap.objs.size f cda cc
  refine ks_wpAt_execs_cons (ks_wpAt_Expr_any (ks_wpAt_MethodCall (pl := pl) ?_ hpl) (hint _ _ _ _))
  have KI : K.In h₁ := I.kIn
  refine ks_wpAt_super_base (f := f) (cc := cda) (of := ⟨oc, od, .func (PySem.W.ksFn "__init__" qual (defArgs st) (defBody st) (defScope st) .none .none doc pm an (.ref cda) ct cc), osl⟩) (ar := ar) hks hkc (by decide) rfl (KI _ _ lk) rfl har rfl (KI _ _ hcode) rfl hvs hfile htop ?_
  refine PySem.W.ks_loadName_global S.kind hks (Calls.loadGlobal_builtin (env := XX.env) (e0.mod.glob.keeps I.bk) hsu (hmb1.keeps I.bk) ((hmb2 _ (by decide)).trans PyProof.Rows.Boot.«super») ⟨rfl, ?_⟩)
  refine wpAny_loadName_free S.kind hkc rfl ⟨_, KI _ _ hcell, rfl⟩ ?_
  rw [hara]
  obtain ⟨m, hm, hl⟩ := I.loc
  obtain ⟨uS, rS, lS⟩ := hl 0 "self" (.ref a) rfl rfl (.inl hkself)
  obtain rfl : uS = Value.ref a := rS
  have hmS : m "self" = some (.ref a) := by
    rcases lS with ⟨_, e⟩ | ⟨e | e, _⟩
    · exact e
    · exact absurd (show (defScope st).names.lookup ("self" : Str) = some .cell from e) (by rw [hkself]; decide)
    · exact absurd (show (defScope st).names.lookup ("self" : Str) = some .free from e) (by rw [hkself]; decide)
  refine wpAny_loadName_local S.kind hkself hm hmS ?_
  have hDo : h₁.get? C = some (excClassObj nm qn C NN bs bm true sn sub ab col dd k0 k1 k2 k3 k5 "ValueError.__new__") := KI _ _ hC
  refine ks_wpAny_isType_cls hDo rfl ⟨rfl, ?_⟩
  refine ks_wpAny_call_super (h := h₁) (C := C) hDo rfl hoe rfl (fun c e => nomatch e) (PySem.W.looks_mroIn KI X.sup) (fun h2 e2 k2 => ?_)
  have KI2 : K.In h2 := KI.keeps k2
  have hne : a ≠ C := fun z => by rw [z, KH _ _ hC] at ha; cases ha
  have IN : PySem.W.InstAt h2 a (PySem.HandSPX.excO C t1) C none := ⟨k2 _ _ hoe, rfl, rfl, trivial⟩
  refine PySem.W.kxs_getMethod kxs_ValueError e2 (PySem.W.looks_opaque KI2 X.opq) (l₀ := .ref C :: bm) (l := bm) (fun A Q E s k q => wpAny_bind ((PySem.W.looks_clsIn KI2 hcl) A _ E s k (wpAny_pure q))) (by simp [List.dropWhile_cons]) KI2 ?_ (IN.type.andThen (PySem.W.looks_subIn KI2 X.isV)) hne (by decide) ?_
  · have := X.along
    unfold ks_superIn at this
    rw [hcl] at this
    simpa [List.dropWhile_cons] using this
  have k3 : ∀ b o, h₁.get? b = some o → (h2.push (kxs_mw "ValueError.__init__" a)).get? b = some o := fun b o e => Heap.get?_push_of_some _ (k2 b o e)
  dsimp only
  refine PySem.W.kxs_callWith (i := "ValueError.__init__") (x := a) (u := h2.objs.size) rfl (Calls.evalArgs_plain (Calls.spliced_cons (Calls.Constant_str (k := j) (pos := p3) (Calls.spliced_nil ⟨?_, ?_⟩))))
  · exact Heap.get?_push_size _ rfl
  refine call_mwV (KI.keeps k3 _ _ hC) (k3 _ _ hoe) (Heap.get?_push_size _ rfl) (by show 1 ≤ sizeLine; decide) (fun h4 t2 k4 e4 => ?_)
  have J1 := I.kept (t' := s.toks + ((["self", y] : List Str).zip us).length + 1 + 1) k3
  have J := J1.write (x := a) (e := a) (o := exo a C none) (t' := s.toks + ((["self", y] : List Str).zip us).length + 1 + 1) (by show Mut (H a); rw [ha]; trivial) (.inl rfl) k4 ⟨_, e4⟩ (exo_ok e4)
  have eu : upd H a (exo a C none) = H := by
    funext b
    by_cases hb : b = a
    · rw [hb, upd_same, ha]
    · rw [upd_ne hb]
  rw [eu] at J
  refine _root_.PySem.wpAt_of_wpAny ?_
  have hps : PSs XX [.Assign [.Attribute (.Name "self" p6) fld p7] (.Name y p8) p9] _ := pss_one (ps_ost (f := fld) (p' := p7) (pos := p9) (pe_var (X := XX) (i := 0) (pos := p6) rfl (.inl hkself)) (pe_var (X := XX) (i := 1) (pos := p8) rfl (.inl hky) hyd hyc) (hsw _))
  refine wpAny_mono (hps.run [] _ _ H { nx := fun _ H' => Q .non H', rt := Q } J ⟨z, rfl, .ref a, rfl, a, C, rfl, T, hno, .inl ⟨ha, fun dx h1 h2 => hq dx h1 h2⟩⟩) (fun fl s' hs => ?_) fun e s' hs => hs
  have fin : ∀ {σ' : L2.St} {H' : Hp} {v : V} {u : Value}, Inv XX [] σ' H' s' → L2.RelV v u → Q v H' → CE outer P w H s Q u s' :=
    fun {σ' H' v u} J rv q => ⟨v, H', J.os, J.bare, J.base, J.hok, rv, q⟩
  cases fl with
  | ret u =>
    obtain ⟨v, σ', H', J, rv, q⟩ := hs
    exact fin J rv q
  | next =>
    obtain ⟨σ', H', J, q⟩ := hs
    exact fin (v := V.non) (u := Value.none) J rfl q
  | brk =>
    obtain ⟨_, _, _, q⟩ := hs
    exact False.elim q
  | cont =>
    obtain ⟨_, _, _, q⟩ := hs
    exact False.elim q
end
end SH
/-! R7 -/
set_option Elab.async false
set_option linter.all false
set_option maxRecDepth 100000
set_option maxHeartbeats 4000000
/-! dict == dict where the values are equal by an own == (only True is told). -/
namespace SH
open PySem PySem.Spec PyProof.Rows L2
section
open PySem.W
variable {κ : Type} [DecidableEq κ] {prog : Program} {w : World} {knd : PySem.KeyKind prog w κ} {A : Around} {E : Value → Shared → Prop} {s : Shared}
theorem samePairsG {nm : String} {a b : Addr} {oa ob : Obj} {ka kb : List (κ × Value)} {Q : Bool → Shared → Prop} (ha : (a == sysModules) = false) (hb : (b == sysModules) = false)
    (da : s.heap.DictOf knd a ka) (db : s.heap.DictOf knd b kb) (hoa : s.heap.get? a = some oa) (hob : s.heap.get? b = some ob) (hlen : ka.length = kb.length) (I : Nat → Shared → Prop) (hI : ∀ i s', I i s' → s'.heap.get? a = some oa ∧ s'.heap.get? b = some ob)
    (turn : ∀ i k v, ka[i]? = some (k, v) → ∃ y, valueAt kb k = some y ∧ ∀ s', I i s' → wpAny (model prog w) A (eqBool v y) (fun r s2 => r = true ∧ I (i + 1) s2) E s')
    (fin : ∀ s', I ka.length s' → Q true s') (h0 : I 0 s) : wpAny (model prog w) A (Builtin.Dict.samePairs nm a b) Q E s := by
  obtain ⟨oa', es, ep, hoa', _, hda, hka, hpa, _⟩ := da
  obtain ⟨ob', es', ep', hob', _, hdb, hkb, hpb, _⟩ := db
  rw [hoa] at hoa'; cases hoa'
  rw [hob] at hob'; cases hob'
  have hla : ka.length = es.size := by rw [← hpa.length]; exact Array.length_toList
  have hlb : kb.length = es'.size := by rw [← hpb.length]; exact Array.length_toList
  have hfind : ∀ k, findBy knd.is es' k = valueAt kb k := fun k => by
    rw [← hpb.find k]
    clear hlb hpb hkb hdb hob hI
    obtain ⟨l⟩ := es'
    simp [findBy]
  have hsz : es.size = es'.size := by omega
  unfold Builtin.Dict.samePairs Builtin.Dict.showsAll
  rw [if_neg (show ¬ (a == sysModules) = true by rw [ha]; exact Bool.false_ne_true), if_neg (show ¬ (b == sysModules) = true by rw [hb]; exact Bool.false_ne_true)]
  refine wpAny_bind (wpAny_pure (wpAny_bind (wpAny_pure ?_)))
  refine wpAny_bind (wpAny_dictEntries hoa hda ?_)
  dsimp only
  refine wpAny_bind (wpAny_dictEntries hob hdb ?_)
  rw [if_neg (by rw [hsz]; simp)]
  refine wpAny_bind (wpAny_dictEpoch hoa hda ?_)
  refine wpAny_bind ?_
  rw [Std.Legacy.Range.forIn_eq_forIn_range']
  simp only [Std.Legacy.Range.size, Nat.sub_zero, Nat.add_sub_cancel, Nat.div_one]
  refine wpAny_forIn_list _ (fun rest q s' => q = (none, ()) ∧ ∃ i, rest = List.range' i (es.size - i) ∧ i ≤ es.size ∧ I i s') _ ?_ ?_ _ _ ⟨rfl, 0, by simp, Nat.zero_le _, h0⟩
  · rintro x rest q s' ⟨rfl, i, hr, hi, hpre⟩
    have hlt : i < es.size := by
      rcases Nat.lt_or_ge i es.size with h | h
      · exact h
      · rw [Nat.sub_eq_zero_of_le h] at hr; simp at hr
    obtain ⟨rfl, hrest⟩ : x = i ∧ rest = List.range' (i + 1) (es.size - (i + 1)) := by
      have e : es.size - i = (es.size - (i + 1)) + 1 := by omega
      rw [e, List.range'_succ] at hr
      injection hr with h1 h2
      exact ⟨h1, h2⟩
    obtain ⟨ga, gb⟩ := hI _ _ hpre
    refine wpAny_bind (wpAny_dictEntries ga hda ?_)
    rw [Array.getElem?_eq_getElem hlt]
    have hlt' : x < ka.length := by rw [hla]; exact hlt
    obtain ⟨k, v, hkv⟩ : ∃ k v, ka[x] = (k, v) := ⟨_, _, rfl⟩
    have hka' : ka[x]? = some (k, v) := by rw [List.getElem?_eq_getElem hlt', hkv]
    obtain ⟨hkey, hval⟩ := hpa.get? (i := x) (e := es[x]) (k := k) (v := v) (by rw [Array.getElem?_toList]; exact Array.getElem?_eq_getElem hlt) hka'
    obtain ⟨k', hk', hh⟩ := hka es[x] (Array.getElem_mem hlt)
    have ekk : k' = k := knd.inj _ _ _ hk' hkey
    rw [ekk] at hh
    obtain ⟨y, hy, ht⟩ := turn x k v hka'
    show wpAny _ _ (holding [es[x].key, es[x].val] _ >>= _) _ _ _
    rw [hh]
    refine wpAny_bind (wpAny_holding (wpAny_bind (wpAny_dictFind_of hkey gb hdb hkb ?_)))
    cases hj : es'.findIdx? fun e => knd.is k e.key with
    | none =>
      have hn : valueAt kb k = none := by rw [← hfind k, findBy_of_findIdx?, hj]
      rw [hn] at hy; exact nomatch hy
    | some j =>
      obtain ⟨hjlt, _, _⟩ := Array.findIdx?_eq_some_iff_getElem.mp hj
      have hv' : valueAt kb k = some es'[j].val := by
        rw [← hfind k, findBy_of_findIdx?, hj]
        simp [Array.getElem?_eq_getElem hjlt]
      refine wpAny_bind (wpAny_dictEntries gb hdb ?_)
      rw [Array.getElem?_eq_getElem hjlt]
      have ey : es'[j].val = y := Option.some.inj (hv'.symm.trans hy)
      rw [← ey, ← hval] at ht
      refine wpAny_holding (wpAny_mono (ht s' hpre) (fun r s2 hq => ?_) fun _ _ z => z)
      obtain ⟨rfl, hI2⟩ := hq
      show wpAny _ _ (if (!true) = true then _ else _) _ _ _
      rw [if_neg (by decide)]
      refine wpAny_bind (wpAny_dictEpoch (hI _ _ hI2).1 hda ?_)
      rw [if_neg (by simp)]
      exact wpAny_pure ⟨rfl, x + 1, hrest, hlt, hI2⟩
  · rintro q s' ⟨rfl, i, hr, hi, hpre⟩
    have hin : i = es.size := by
      rcases Nat.lt_or_ge i es.size with h | h
      · have e : es.size - i = (es.size - (i + 1)) + 1 := by omega
        rw [e, List.range'_succ] at hr; exact nomatch hr
      · exact Nat.le_antisymm hi h
    refine wpAny_pure ?_
    rw [hin, ← hla] at hpre
    exact fin _ hpre
theorem rcG_dicts {a b : Addr} {oa ob : Obj} {ka kb : List (κ × Value)} (ha : (a == sysModules) = false) (hb : (b == sysModules) = false)
    (da : s.heap.DictOf knd a ka) (db : s.heap.DictOf knd b kb) (hoa : s.heap.get? a = some oa) (hob : s.heap.get? b = some ob) (hlen : ka.length = kb.length) (hu : A.units < cLine) (I : Nat → Shared → Prop) (hI : ∀ i s', I i s' → s'.heap.get? a = some oa ∧ s'.heap.get? b = some ob)
    {Q : Value → Shared → Prop}
    (turn : ∀ i k v, ka[i]? = some (k, v) → ∃ y, valueAt kb k = some y ∧ ∀ s', I i s' → wpAny (model prog w) A.in1 (eqBool v y) (fun r s2 => r = true ∧ I (i + 1) s2) E s')
    (fin : ∀ s', I ka.length s' → Q (.bool true) s') (h0 : I 0 s) : wpAny (model prog w) A (richCompare .Eq (.ref a) (.ref b)) Q E s := by
  refine wpAny_richCompare_same_room (op := .Eq) da.typeIs db.typeIs PySem.F.slot_dict_eq (GQ.call_here PySem.F.slot_dict_eq da.typeIs PySem.F.entry_dict_eq (PySem.F.args_dict_eq_2 _ _) ?_) hu
  show wpAny _ _ (Builtin.Dict.dictSlotArgs "__eq__" ⟨[.ref a, .ref b], []⟩ >>= _) _ _ s
  refine wpAny_bind ?_
  unfold Builtin.Dict.dictSlotArgs
  refine wpAny_bind (wpAny_notOrdered_dict da.typeIs ?_)
  show wpAny _ _ (pure (Value.ref a, Value.ref b)) _ _ s
  refine wpAny_pure ?_
  refine wpAny_bind (wpAny_isInstance (T := "dict") db.typeIs PySem.F.sub_dict_dict ?_)
  simp only [Bool.not_true, Bool.false_eq_true, if_false]
  refine wpAny_bind (wpAny_pure (wpAny_bind (wpAny_pure ?_)))
  refine wpAny_bind (samePairsG ha hb da db hoa hob hlen I hI turn (fun s' hq => ?_) h0)
  refine wpAny_pure ?_
  exact (show (Value.bool (true == true)) ≠ Value.notImplemented ∧ Q (.bool (true == true)) s' from ⟨(fun x => nomatch x), fin s' hq⟩)
end
section
variable {X : Cx} {n : Nat} {D : Eqv}
def rEqDG (D : Eqv) : R2 := fun x y H Q => ∃ (a b : Addr) (kvs ls : List (Key × V)), x = .ref a ∧ y = .ref b ∧ a ≠ b ∧ H a = some (.dK kvs) ∧ H b = some (.dK ls) ∧ kvs.length = ls.length ∧
  (∀ oa ob k v, (k, v) ∈ kvs → ∃ w, valV ls k = some w ∧ D v w (upd (upd H a (.frz oa (.dK kvs))) b (.frz ob (.dK ls)))) ∧ ∀ H', Ext H H' → Q (.bl true) H'
theorem op_eqDG (hD : Mon D) (h : EqG X n D) (hr : Room (n + 1) X.A) : OpR X (compareOp .Eq) (rEqDG D) := by
  intro pins s σ H x y v u Q I rx ry hq
  obtain ⟨a, b, kvs, ls, rfl, rfl, hab, ha, hb, hl, hv, q⟩ := hq
  cases rx
  cases ry
  obtain ⟨oa, I1⟩ := I.lock ha trivial
  have hb1 : upd H a (.frz oa (.dK kvs)) b = some (.dK ls) := by rw [upd_ne (Ne.symm hab)]; exact hb
  obtain ⟨ob, I2⟩ := I1.lock hb1 trivial
  have hv' := hv oa ob
  have ha2 : upd (upd H a (.frz oa (.dK kvs))) b (.frz ob (.dK ls)) a = some (.frz oa (.dK kvs)) := by rw [upd_ne hab, upd_same]
  have hb2 : upd (upd H a (.frz oa (.dK kvs))) b (.frz ob (.dK ls)) b = some (.frz ob (.dK ls)) := upd_same
  have hkeep : ∀ c o, c ≠ a → c ≠ b → H c = some o → upd (upd H a (.frz oa (.dK kvs))) b (.frz ob (.dK ls)) c = some o := fun c o h1 h2 e => by rw [upd_ne h2, upd_ne h1]; exact e
  generalize upd (upd H a (.frz oa (.dK kvs))) b (.frz ob (.dK ls)) = HL at I2 hv' ha2 hb2 hkeep
  obtain ⟨goa, _, za, ka, ra, da⟩ := I2.hok a _ ha2
  obtain ⟨gob, _, zb, kb, rb, db⟩ := I2.hok b _ hb2
  show wpAny (model X.prog X.w) X.A (richCompare .Eq (.ref a) (.ref b)) (EP X pins σ Q) X.xe s
  refine rcG_dicts za zb da db goa gob (by rw [← ra.length, ← rb.length]; exact hl) hr.units0 (fun _ s' => ∃ H', Inv X pins σ H' s' ∧ Ext HL H') (fun i s' hi => ?_) (fun i k v hk => ?_) (fun s' hi => ?_) ⟨HL, I2, Ext.rfl'⟩
  · obtain ⟨H', I', e⟩ := hi
    exact ⟨(I'.hok a _ (e _ _ ha2)).1, (I'.hok b _ (e _ _ hb2)).1⟩
  · obtain ⟨p, hp, ek, rv⟩ : ∃ p, kvs[i]? = some p ∧ p.1 = k ∧ L2.RelV p.2 v := by
      have hlt : i < kvs.length := by
        have := (List.getElem?_eq_some_iff.mp hk).1
        rw [ra.length]; exact this
      obtain ⟨q, hq, h1, h2⟩ := paired_get ra (List.getElem?_eq_getElem hlt)
      rw [hk] at hq; cases hq
      exact ⟨_, List.getElem?_eq_getElem hlt, h1, h2⟩
    obtain ⟨w, hw, hd⟩ := hv' k p.2 (by have := List.mem_of_getElem? hp; rw [← ek]; exact this)
    obtain ⟨y, hy, ry⟩ := RelO.some_of (v := w) (o := valueAt kb k) (by rw [← hw]; exact rb.val k)
    refine ⟨y, hy, fun s' hi => ?_⟩
    obtain ⟨H', I', e⟩ := hi
    refine wpAny_mono (h X.A.in1 pins s' σ H' p.2 w v y ⟨hr.in1, rfl⟩ I' rv ry (hD _ _ _ _ e hd)) (fun r s2 hz => ?_) fun _ _ z => z
    obtain ⟨hr', H2, I3, e2⟩ := hz
    exact ⟨hr', H2, I3, e.trans e2⟩
  · obtain ⟨H', I', e⟩ := hi
    have nb := I1.nofrz hb1 trivial
    have na := I.nofrz ha trivial
    have J1 := I'.unlock (e _ _ hb2) nb
    have J2 := J1.unlock (d := a) (od := oa) (u := .dK kvs) (by rw [upd_ne hab]; exact e _ _ ha2) na
    refine ⟨.bl true, _, J2, rfl, q _ fun c o hc => ?_⟩
    by_cases h1 : c = a
    · rw [h1, ha] at hc; cases hc
      rw [h1, upd_same]
    · rw [upd_ne h1]
      by_cases h2 : c = b
      · rw [h2, hb] at hc; cases hc
        rw [h2, upd_same]
      · rw [upd_ne h2]
        exact e _ _ (hkeep c o h1 h2 hc)
end
end SH
/-! R13 -/
set_option Elab.async false
set_option linter.all false
set_option maxRecDepth 100000
set_option maxHeartbeats 4000000
/-! min, max of a pair of texts; min of a list of (int, text). -/
namespace SH
open PySem PySem.Spec PyProof.Rows L2
open PySem.W (minD maxD AlikeAll dataLt)
section
variable {X : Cx} {pins : List (Addr × Obj)} {σ : L2.St} {H : Hp} {s : Shared}
theorem vals_2s {x y : Str} {us : List Value} (r : Vals [V.str x, V.str y] us) : ∃ t t', us = [.str x t, .str y t'] := by
  obtain ⟨u1, u2, rfl, r1, r2⟩ := vals2 r
  obtain ⟨t1, rfl⟩ := r1
  obtain ⟨t2, rfl⟩ := r2
  exact ⟨t1, t2, rfl⟩
def rMinT (K : PySem.W.Frag) : List V → Hp → VK → Prop := fun vs H Q => ∃ (a : Addr) (x y : Str), vs = [V.ref a] ∧ SqT K H a [.str x, .str y] ∧ Q (.str (if slt y x then y else x)) H
def rMaxT (K : PySem.W.Frag) : List V → Hp → VK → Prop := fun vs H Q => ∃ (a : Addr) (x y : Str), vs = [V.ref a] ∧ SqT K H a [.str x, .str y] ∧ Q (.str (if slt x y then y else x)) H
theorem alike_2s (x y : Str) : AlikeAll [.str x, .str y] := ⟨fun a ha b hb => by
  simp only [List.mem_cons, List.not_mem_nil, or_false] at ha hb
  rcases ha with rfl | rfl <;> rcases hb with rfl | rfl <;> rfl, fun a ha => by
  simp only [List.mem_cons, List.not_mem_nil, or_false] at ha
  rcases ha with rfl | rfl <;> (intro z; cases z)⟩
theorem dataLt_slt (x y : Str) : dataLt (.str x) (.str y) = decide (slt x y) := (PySem.W.dataLt_str x y).trans (decide_eq_decide.mpr Iff.rfl)
theorem reads_str {h : Heap} {v : Value} {z : Str} {as : List Addr} (r : Reads h v (.str z) as) : ∃ t, v = .str z t := by
  cases r with
  | str x t => exact ⟨t, rfl⟩
theorem cr_minT (hc : X.calm = true) (hu : X.A.units + 64 < cLine) : CallR X (.builtin "min") (rMinT X.K) := by
  intro pins s σ H vs us Q I r h
  obtain ⟨a, x, y, rfl, hs, q⟩ := h
  rw [Vals.ref1 r]
  obtain ⟨its, rv, ht, _⟩ := I.tuple hs
  obtain ⟨t, t', rfl⟩ := vals_2s rv
  obtain ⟨o, ho, hcl, n, hd⟩ := ht
  have e1 : (PyData.str x).depth = 0 := rfl
  have e2 : (PyData.str y).depth = 0 := rfl
  refine PySem.W.min_tuple_data (x := .str x) (xs := [.str y]) (I.ok.hd hc) ⟨o, ho, hcl, n, hd⟩ (.cons (as := []) (bs := []) (.str _ _) (.cons (as := []) (bs := []) (.str _ _) .nil)) (alike_2s x y) (by simp [PyData.depthAll, e1, e2]; omega) fun i v h' tk bs _ hr hk => ?_
  have em : minD (.str x) [.str y] = .str (if slt y x then y else x) := by
    show (if dataLt (.str y) (.str x) = true then PyData.str y else PyData.str x) = _
    rw [dataLt_slt]
    by_cases z : slt y x
    · rw [if_pos z, if_pos (decide_eq_true z)]
    · rw [if_neg z, if_neg (by simpa using z)]
  rw [em] at hr
  obtain ⟨t2, rfl⟩ := reads_str hr
  exact ⟨.str _, H, I.kept hk, ⟨t2, rfl⟩, q⟩
theorem cr_maxT (hc : X.calm = true) (hu : X.A.units + 64 < cLine) : CallR X (.builtin "max") (rMaxT X.K) := by
  intro pins s σ H vs us Q I r h
  obtain ⟨a, x, y, rfl, hs, q⟩ := h
  rw [Vals.ref1 r]
  obtain ⟨its, rv, ht, _⟩ := I.tuple hs
  obtain ⟨t, t', rfl⟩ := vals_2s rv
  obtain ⟨o, ho, hcl, n, hd⟩ := ht
  have e1 : (PyData.str x).depth = 0 := rfl
  have e2 : (PyData.str y).depth = 0 := rfl
  refine PySem.W.max_tuple_data (x := .str x) (xs := [.str y]) (I.ok.hd hc) ⟨o, ho, hcl, n, hd⟩ (.cons (as := []) (bs := []) (.str _ _) (.cons (as := []) (bs := []) (.str _ _) .nil)) (alike_2s x y) (by simp [PyData.depthAll, e1, e2]; omega) fun i v h' tk bs _ hr hk => ?_
  have em : maxD (.str x) [.str y] = .str (if slt x y then y else x) := by
    show (if dataLt (.str x) (.str y) = true then PyData.str y else PyData.str x) = _
    rw [dataLt_slt]
    by_cases z : slt x y
    · rw [if_pos z, if_pos (decide_eq_true z)]
    · rw [if_neg z, if_neg (by simpa using z)]
  rw [em] at hr
  obtain ⟨t2, rfl⟩ := reads_str hr
  exact ⟨.str _, H, I.kept hk, ⟨t2, rfl⟩, q⟩
abbrev kdD (p : Kd) : PyData := .tuple [.int p.1, .str p.2]
theorem minD_kd : ∀ (ps : List Kd) (p : Kd), ∃ m ∈ p :: ps, minD (kdD p) (ps.map kdD) = kdD m ∧ ∀ q ∈ p :: ps, m = q ∨ klt m q
  | [], p => ⟨p, List.mem_cons_self, rfl, fun q hq => by simp at hq; exact .inl hq.symm⟩
  | r :: ps, p => by
    have e : minD (kdD p) ((r :: ps).map kdD) = minD (if dataLt (kdD r) (kdD p) = true then kdD r else kdD p) (ps.map kdD) := rfl
    rw [dataLt_kd] at e
    by_cases h : klt r p
    · rw [if_pos (decide_eq_true h)] at e
      obtain ⟨m, hm, h1, h2⟩ := minD_kd ps r
      refine ⟨m, List.mem_cons_of_mem _ hm, e.trans h1, fun q hq => ?_⟩
      rcases List.mem_cons.mp hq with z | z
      · rw [z]
        rcases h2 r List.mem_cons_self with y | y
        · rw [y]; exact .inr h
        · exact .inr (klt_trans y h)
      · exact h2 q z
    · rw [if_neg (by simpa using h)] at e
      obtain ⟨m, hm, h1, h2⟩ := minD_kd ps p
      refine ⟨m, ?_, e.trans h1, fun q hq => ?_⟩
      · rcases List.mem_cons.mp hm with z | z
        · rw [z]; exact List.mem_cons_self
        · exact List.mem_cons_of_mem _ (List.mem_cons_of_mem _ z)
      · rcases List.mem_cons.mp hq with z | z
        · rw [z]; exact h2 p List.mem_cons_self
        · rcases List.mem_cons.mp z with y | y
          · rw [y]
            have hp := h2 p List.mem_cons_self
            rcases klt_tri p r with x | x | x
            · rcases hp with w | w
              · rw [w]; exact .inr x
              · exact .inr (klt_trans w x)
            · rw [← x]; exact hp
            · exact absurd x h
          · exact h2 q (List.mem_cons_of_mem _ y)
def rMinKd (K : PySem.W.Frag) : List V → Hp → VK → Prop := fun vs H Q => ∃ (a : Addr) (ps : List (Addr × Kd)), vs = [V.ref a] ∧ SqL K H a (ps.map fun p => V.ref p.1) ∧ (∀ p ∈ ps, SqT K H p.1 [.int p.2.1, .str p.2.2]) ∧ ps ≠ [] ∧
  ∀ p ∈ ps, (∀ q ∈ ps, p.2 = q.2 ∨ klt p.2 q.2) → Q (.ref p.1) H
theorem cr_minKd (hc : X.calm = true) (hu : X.A.units + 64 < cLine) : CallR X (.builtin "min") (rMinKd X.K) := by
  intro pins s σ H vs us Q I r h
  obtain ⟨a, ps, rfl, hs, hp, hne, q⟩ := h
  rw [Vals.ref1 r]
  obtain ⟨its, rv, pl, _⟩ := I.list hs
  have rd : ∀ p ∈ ps, Reads s.heap (.ref p.1) (kdD p.2) [] := fun p hp' => by
    obtain ⟨its, rv, ⟨ob, ho, hc, n, hd⟩, _⟩ := I.tuple (hp p hp')
    obtain ⟨u1, u2, rfl, r1, r2⟩ := vals2 rv
    obtain ⟨t1, rfl⟩ := r1
    obtain ⟨t2, rfl⟩ := r2
    exact .tuple ho hc hd (.cons (as := []) (bs := []) (.int _ _) (.cons (as := []) (bs := []) (.str _ _) .nil))
  have eits : ∀ {M : List (Addr × Kd)} {us : List Value}, Vals (M.map fun p => V.ref p.1) us → us = M.map fun p => Value.ref p.1 := by
    intro M
    induction M with
    | nil => intro us h; cases h; rfl
    | cons p M ih => intro us h; cases h with | cons r t => cases r; rw [ih t]; rfl
  have ei := eits rv
  have rall : ∀ M : List (Addr × Kd), (∀ p ∈ M, p ∈ ps) → ReadsAll s.heap (M.map fun p => Value.ref p.1) (M.map fun p => kdD p.2) [] := by
    intro M
    induction M with
    | nil => intro _; exact .nil
    | cons p M ih => intro h; exact .cons (as := []) (bs := []) (rd p (h p List.mem_cons_self)) (ih fun q hq => h q (List.mem_cons_of_mem _ hq))
  obtain ⟨p0, ps', e0⟩ : ∃ p0 ps', ps = p0 :: ps' := by cases ps with | nil => exact absurd rfl hne | cons p r => exact ⟨p, r, rfl⟩
  have hd1 : ∀ M : List (Addr × Kd), PyData.depthAll (M.map fun p => kdD p.2) ≤ 1 := by
    intro M
    induction M with
    | nil => simp [PyData.depthAll]
    | cons p M ih =>
      have e : (kdD p.2).depth = 1 := by simp [PyData.depth, PyData.depthAll]
      simp only [List.map_cons, PyData.depthAll]
      omega
  have al : AlikeAll (ps.map fun p => kdD p.2) := ⟨fun x hx y hy => by
    obtain ⟨p, _, rfl⟩ := List.mem_map.mp hx
    obtain ⟨q, _, rfl⟩ := List.mem_map.mp hy
    rfl, fun x hx => by
    obtain ⟨p, _, rfl⟩ := List.mem_map.mp hx
    intro z; cases z⟩
  have ra : ReadsAll s.heap its.toArray.toList (kdD p0.2 :: (ps'.map fun p => kdD p.2)) [] := by
    have := rall ps fun _ h => h
    rw [e0] at this ei
    rw [ei]
    exact this
  refine PySem.W.min_list_data (I.ok.hd hc) pl.isList ra (by rw [e0] at al; exact al) (by have := hd1 ps; rw [e0] at this; have h2 : PyData.depthAll (kdD p0.2 :: (ps'.map fun p => kdD p.2)) ≤ 1 := this; omega) fun i v h' tk bs hv hr hk => ?_
  have hv' : (ps.map fun p => Value.ref p.1)[i]? = some v := by rw [← ei]; simpa using hv
  rw [List.getElem?_map] at hv'
  cases hpi : ps[i]? with
  | none => rw [hpi] at hv'; cases hv'
  | some p =>
    rw [hpi] at hv'
    obtain rfl : Value.ref p.1 = v := Option.some.inj hv'
    have hpm := List.mem_of_getElem? hpi
    have hm2 : (ps'.map fun p => kdD p.2) = (ps'.map (·.2)).map kdD := by rw [List.map_map]; rfl
    obtain ⟨m, hm, h1, h2⟩ := minD_kd (ps'.map (·.2)) p0.2
    rw [hm2, h1] at hr
    have e := PySem.W.alike_unique _ _ _ _ _ rfl hr (PyProof.Rows.Reads.keeps hk (rd p hpm))
    have em : m = p.2 := by
      have e' : [PyData.int m.1, .str m.2] = [.int p.2.1, .str p.2.2] := PyData.tuple.inj e
      simp only [List.cons.injEq, PyData.int.injEq, PyData.str.injEq, and_true] at e'
      exact Prod.ext e'.1 e'.2
    refine ⟨.ref p.1, H, I.kept hk, rfl, q p hpm fun q' hq' => ?_⟩
    rw [← em]
    refine h2 q'.2 ?_
    rw [e0] at hq'
    rcases List.mem_cons.mp hq' with z | z
    · rw [z]; exact List.mem_cons_self
    · exact List.mem_cons_of_mem _ (List.mem_map.mpr ⟨q', z, rfl⟩)
end
end SH
/-! R14 -/
set_option Elab.async false
set_option linter.all false
set_option maxRecDepth 100000
set_option maxHeartbeats 4000000
/-! repr of a list of texts; promises of defs that say repr: no display is under way at their call. -/
namespace SH
open PySem PySem.Spec PyProof.Rows L2 LamX
/-- a promise for calls while no display is under way -/
structure FnOkG (P : Program) (w : World) (K : PySem.W.Frag) (mg : Str → Option Value) (base : Heap) (CX : CXT) (k : Nat) (f : Addr) (fd : FuncData) (ps : List Str) (sp : Sp) : Prop where
  len : ∀ vs H Q E, sp vs H Q E → vs.length = ps.length
  run : ∀ (A : Around) (outer : List Env) (s : Shared) (H : Hp) (args : Args) (us : List Value) (vs : List V) (Q : VK) (E : XK), Room k A → A.guards = some [] → Env0 P w K mg base A outer s H → BindsTo s fd args (ps.zip us) → Vals vs us → sp vs H Q E →
    codeAny (model P w) A (.call (.ref f) args) (CR CX outer P w H s Q E) s
structure CalG (P : Program) (w : World) (K : PySem.W.Frag) (mg : Str → Option Value) (base : Heap) (k : Nat) (x : Str) (sp : Sp) : Prop where
  ex : ∃ (f : Addr) (fd : FuncData) (ps : List Str), FnOkG P w K mg base CX0 k f fd ps sp ∧ mg x = some (.ref f) ∧ PySem.W.keepIn K (.ref f) = true ∧ Binds K fd ps []
theorem guards_deeper (A : Around) (env : Env) : (A.deeper env).guards = A.guards := rfl
section
variable {P : Program} {w : World} {K : PySem.W.Frag} {mg : Str → Option Value} {base : Heap}
abbrev BodyG (P : Program) (w : World) (K : PySem.W.Frag) (mg : Str → Option Value) (base : Heap) (qual : Str) (st : Stmt) (N : List Str) (k : Nat) (sp : Sp) : Prop :=
  ∀ (f : Addr) (cdv : Value) (A : Around) (outer : List Env) (s : Shared) (H : Hp) (vs : List V) (Q : VK) (E : XK), A.guards = some [] → Room k (A.deeper (envOfC qual (defScope st) s.heap.objs.size f cdv)) → sp vs H Q E →
      ∃ t, PSs (cxOf CX0 P w K mg base N qual (defScope st) f cdv A outer s H E).nox (defBody st) t ∧ t { nx := fun _ H' => Q .non H', rt := Q } (start N vs) H
theorem fn_bodyG {x qual : Str} {st : Stmt} {dvs : List V} {kws : List (Str × V)} {f : Addr} {fd : FuncData} {N ps : List Str} {k : Nat} {sp : Sp} (F : FunD K x qual (defArgs st) (defBody st) (defScope st) dvs kws f fd) (S : FnScope N ps (defScope st))
    (len : ∀ vs H Q E, sp vs H Q E → vs.length = ps.length) (hb : BodyG P w K mg base qual st N k sp) : FnOkG P w K mg base CX0 (k + 1) f fd ps sp := by
  obtain ⟨oc, od, dV, kV, doc, pm, an, cdv, ct, osl, rfl, lk, hcd, _, _⟩ := F.ex
  refine ⟨len, fun A outer s H args us vs Q E hr hg e0 hbd r hsp => ?_⟩
  refine run_ofS (N := N) lk hcd S hr e0 hbd r (len _ _ _ _ hsp) fun hr' => ?_
  obtain ⟨t, h, q⟩ := hb f cdv A outer s H vs Q E hg hr' hsp
  exact ⟨t, h.nox, q⟩
theorem cal_ofG {x : Str} {st : Stmt} {N ps : List Str} {k : Nat} {sp : Sp} (D : DefAt K mg x st []) (S : FnScope N ps (defScope st))
    (bd : ∀ (kV doc pm : Value) (an : Option Addr) (cdv ct : Value) (us : List Value), us.length = ps.length → bindArgs (PySem.W.fnOf x x (defArgs st) (defBody st) (defScope st) .none kV doc pm an cdv ct) ⟨us, []⟩ = pure (ps.zip us))
    (len : ∀ vs H Q E, sp vs H Q E → vs.length = ps.length) (hb : BodyG P w K mg base x st N k sp) : CalG P w K mg base (k + 1) x sp := by
  obtain ⟨f, fd, F, hm⟩ := D
  exact ⟨f, fd, ps, fn_bodyG F S len hb, hm, F.kp, F.bindsN bd⟩
end
section
variable {X : Cx} {k j : Nat} {x : Str} {sp : Sp} {p pos : Pos} {e : Expr} {es : List Expr} {t : TA}
theorem pe_cG (c : CalG X.prog X.w X.K X.mg X.base k x sp) (hr : Room j X.A) (hgd : X.A.guards = some []) (hk : k ≤ j) (ha : PA X (e :: es) t) (hg : Gl X x := by rfl)
    (hdb : (x == ("__debug__" : Str)) = false := by decide) (he : starEach (e :: es) X.env = (false, eval e X.env) :: starEach es X.env := by rfl) (hpl : (backTo pos (starEach es X.env)).any (·.1) = false := by rfl) :
    PE X (.Call (.Name x p) (e :: es) [] pos) (tCall sp [] E0 t) := by
  obtain ⟨f, fd, ps, F, hm, kp, b⟩ := c.ex
  refine ⟨fun pins s σ H Q I h => ?_⟩
  refine wpAny_Call_Name_kw (ld_glob I hg hm ?_ hdb)
  refine PySem.W.callWith_K (h₀ := X.base) I.ok.mod.kin kp (thn (ha.run pos pins s σ H _ I h) fun us s1 ⟨vs, H1, I1, r, q⟩ => ⟨I1.kIn, ?_⟩) he hpl
  have q : sp vs H1 Q E0 := by have := q; simpa using this
  show wpAny _ _ (call (.ref f) us) _ _ _
  have hl : us.length = ps.length := by rw [← r.length]; exact F.len _ _ _ _ q
  have hb' := b s1 us I1.kIn (by rw [List.append_nil]; exact hl)
  rw [List.append_nil] at hb'
  refine wpAny_call (codeAny_mono (F.run X.A X.stack s1 H1 ⟨us, []⟩ us vs Q E0 (hr.mono hk) hgd I1.env0 hb' r q) fun r s' hq => ?_)
  cases r with
  | error e => exact (show False from hq).elim
  | ok fl =>
    cases fl with
    | ret u => exact I1.after hq
    | next => exact False.elim hq
    | brk => exact False.elim hq
    | cont => exact False.elim hq
/-- repr of None, of a list of texts -/
abbrev shL (ks : List Str) : Str := (PyData.list (ks.map PyData.str)).shown
def rReprL (K : PySem.W.Frag) : List V → Hp → VK → Prop := fun vs H Q => (vs = [.non] ∧ Q (.str "None") H) ∨ ∃ (a : Addr) (ks : List Str), vs = [V.ref a] ∧ SqL K H a (ks.map V.str) ∧ (shL ks).length ≤ sizeLine ∧ Q (.str (shL ks)) H
theorem showable_strs : ∀ ks : List Str, (PyData.list (ks.map PyData.str)).showable = true ∧ (PyData.list (ks.map PyData.str)).hasDict = false ∧ (PyData.list (ks.map PyData.str)).depth = 1
  | [] => by simp [PyData.showable, PyData.hasDict, PyData.depth, PyData.showableAll, PyData.hasDictAll, PyData.depthAll]
  | k :: ks => by
    have ih := showable_strs ks
    simp only [PyData.showable, PyData.hasDict, PyData.depth] at ih
    simp only [List.map_cons, PyData.showable, PyData.hasDict, PyData.depth, PyData.showableAll, PyData.hasDictAll, PyData.depthAll, ih, Bool.true_and, Bool.false_or, true_and]
    omega
theorem reads_strs {h : Heap} : ∀ {ks : List Str} {us : List Value}, Vals (ks.map V.str) us → ReadsAll h us (ks.map PyData.str) []
  | [], _, r => by cases r; exact .nil
  | k :: ks, _, r => by
    cases r with
    | cons r1 r2 =>
      obtain ⟨t, rfl⟩ := r1
      exact .cons (as := []) (bs := []) (.str k t) (reads_strs r2)
theorem cr_reprL (hg : X.A.guards = some []) (hu : X.A.units + 64 < cLine) : CallR X (.builtin "repr") (rReprL X.K) := by
  intro pins s σ H vs us Q I r h
  rcases h with ⟨rfl, q⟩ | ⟨a, ks, rfl, hs, hz, q⟩
  · obtain ⟨u, rfl, e⟩ := vals1 r
    obtain rfl : u = Value.none := e
    exact PySem.P.repr_of_none ⟨.str _, H, I.tok _, ⟨_, rfl⟩, q⟩
  · rw [Vals.ref1 r]
    obtain ⟨its, rv, ⟨o, n, ho, hc, _, hd⟩, _⟩ := I.list hs
    obtain ⟨s1, s2, s3⟩ := showable_strs ks
    refine repr_of_reads' (h₀ := s.heap) (d := .list (ks.map PyData.str)) (.list ho hc hd (reads_strs (by simpa using rv))) s1 (fun e => by rw [s2] at e; cases e) hg (by rw [s3]; omega) (fun _ _ e => e) (fun h' u tk hk => ⟨.str _, H, I.kept hk, ⟨u, rfl⟩, q⟩) hz
end
/-! ### the end of a law row whose promise is of that kind (the steps of HandS.EndTab) -/
theorem law_callTsG {P : Program} {w : World} {K : PySem.W.Frag} {mg mb : Str → Option Value} {CX : CXT} {k : Nat} {fa a : Addr} {cs : List (Addr × Addr)} {fd : FuncData} {x : Str} {sp : Sp} {s₁ : Shared} {vs : List Value} {ns : List Int}
    (KX : K.In s₁.heap) (hns : s₁.heap.Ns mainGlobals mg) (hb : s₁.heap.Ns builtinsNs mb) (hbb : ∀ x : Str, x ≠ "__name__" → mb x = bootBuiltins x) (hlim : s₁.heap.NoLimit) (hg : s₁.gens = #[])
    (hT : ∀ p ∈ cs, s₁.heap.get? p.2 = some { cls := .none, data := .fields #[] }) (nT : ∀ p ∈ cs, K.lookup p.2 = none) (C : ∀ p ∈ cs, PySem.W.CodeHd s₁.heap p.1 p.2)
    (hbm : ∃ (bm : Addr) (ob : Obj), mg "__builtins__" = some (.ref bm) ∧ bm ≠ builtinsNs ∧ s₁.heap.get? bm = some ob ∧ ob.cls = .type "module" ∧ ob.dict = some builtinsNs ∧ ob.data = .plain)
    (ha : s₁.heap.get? a = some { cls := .type "list", data := .seq vs.toArray }) (hi : IntsAre vs ns) (hl : ns.length ≤ sizeLine) (hr : Room k callerA)
    (F : ∀ base : Heap, K.In base → base.Ns mainGlobals mg → (∀ p ∈ cs, TabB base mg p.1 p.2) → FnOkG P w K mg base CX k fa fd [x] sp) (hbind : ∀ (s : Shared) (u : Value), BindsTo s fd ⟨[u], []⟩ [(x, u)])
    (hsp : ∀ H : Hp, (∀ p ∈ cs, H p.2 = some (.tbl #[])) → SqL K H a (ns.map V.int) → sp [.ref a] H (fun v _ => v = .bl true) fun _ _ _ => False)
    (hCX : ∀ H e s', CX [] H s₁ (fun _ _ _ => False) e s' → False) :
    codeAny (model P w) callerA (.call (.ref fa) ⟨[.ref a], []⟩) (fun r s' => r = .ok (.ret (.bool true)) ∧ OldK s₁.heap s'.heap ∧ s'.os = s₁.os ∧ AllBare s'.gens) s₁ := by
  have rv := vals_ints hi
  have lenV := hi.length
  have isT : ∀ b : Addr, b ∈ cs.map (·.2) → s₁.heap.get? b = some { cls := .none, data := .fields #[] } := fun b hb => by
    obtain ⟨p, hp, e⟩ := List.mem_map.mp hb
    rw [← e]
    exact hT p hp
  have aT : a ∉ cs.map (·.2) := fun z => by
    have q := isT a z
    rw [ha] at q
    have z' : Data.seq vs.toArray _ = Data.fields #[] := congrArg Obj.data (Option.some.inj q)
    cases z'
  have memT : ∀ p ∈ cs, p.2 ∈ cs.map (·.2) := fun p hp => List.mem_map.mpr ⟨p, hp, rfl⟩
  -- from an abstract heap in which nothing but the script and the tables may be tracked
  have core : ∀ H : Hp, (∀ p ∈ cs, H p.2 = some (.tbl #[])) → (∀ b, H b = none ∨ b ∈ cs.map (·.2) ∨ ∃ o xs, H b = some (.frz o (.lst xs))) → SqL K H a (ns.map V.int) → HOk P w H s₁.heap → (∀ b, H b ≠ none → b = a ∨ b ∈ cs.map (·.2)) → (H a ≠ none → K.lookup a = none) →
      codeAny (model P w) callerA (.call (.ref fa) ⟨[.ref a], []⟩) (fun r s' => r = .ok (.ret (.bool true)) ∧ OldK s₁.heap s'.heap ∧ s'.os = s₁.os ∧ AllBare s'.gens) s₁ := by
    intro H hH hO hS hok hA hK
    have base_of : ∀ {b : Addr} {o : Obj}, s₁.heap.get? b = some o → H b = none → (hidT s₁.heap H).get? b = some o := fun e n => hidT_get e n
    have noD : ∀ {b : Addr} {o : Obj}, s₁.heap.get? b = some o → (∀ vs n, o.data ≠ .seq vs n) → o.data ≠ .fields #[] → H b = none := fun {b o} e h1 h2 => by
      cases q : H b with
      | none => rfl
      | some u =>
        rcases hA b (by rw [q]; simp) with e' | e'
        · rw [e', ha] at e
          cases e
          exact (h1 _ _ rfl).elim
        · rw [isT b e'] at e
          cases e
          exact (h2 rfl).elim
    have noA : ∀ {b : Addr} {o : Obj} {es : Array DictEntry} {ep : Nat}, s₁.heap.get? b = some o → o.data = .dict es ep → H b = none := fun {b o es ep} e d => by
      refine noD e (fun vs n z => ?_) fun z => ?_
      · rw [d] at z
        cases z
      · rw [d] at z
        cases z
    have nsK : ∀ {b : Addr} {m : Str → Option Value}, s₁.heap.Ns b m → (hidT s₁.heap H).Ns b m := fun {b m} ⟨o, es, ep, e, d, r⟩ => ⟨o, es, ep, base_of e (noA e d), d, r⟩
    have hKb : K.In (hidT s₁.heap H) := fun b o e => base_of (KX b o e) (by
      cases q : H b with
      | none => rfl
      | some u =>
        rcases hA b (by rw [q]; simp) with e' | e'
        · rw [e'] at e q
          rw [hK (by rw [q]; simp)] at e
          cases e
        · obtain ⟨p, hp, ep⟩ := List.mem_map.mp e'
          rw [← ep, nT p hp] at e
          cases e)
    have hM : L2.Mod K mg (hidT s₁.heap H) := ⟨hKb, nsK hns, ⟨mb, nsK hb, hbb⟩, let ⟨mc, h1, h2⟩ := hlim; ⟨mc, nsK h1, h2⟩⟩
    have TB : ∀ p ∈ cs, TabB (hidT s₁.heap H) mg p.1 p.2 := fun p hp => by
      have hTp := hT p hp
      refine ⟨?_, ?_, fun z => ?_⟩
      · obtain ⟨o, us, file, tf, flags, tg, inF, text, tt, e1, r1, r2, r3, r4, r5, r6, r7, r8, hne⟩ := C p hp
        refine ⟨o, us, file, tf, flags, tg, inF, text, tt, base_of e1 (noD e1 (fun vs n z => ?_) fun z => ?_), r1, r2, r3, r4, r5, r6, r7, r8, hne⟩
        · rw [r2] at z
          cases z
        · rw [r2] at z
          cases z
          simp at r3
      · obtain ⟨bm, ob, b1, b2, b3, b4, b5, b6⟩ := hbm
        have nG : bm ≠ mainGlobals := fun q => by
          obtain ⟨o, es, ep, e, hd, _⟩ := hns
          rw [q, e] at b3
          cases b3
          rw [hd] at b6
          cases b6
        have nP : bm ≠ p.2 := fun q => by
          rw [q, hTp] at b3
          cases b3
          cases b6
        refine ⟨bm, ob, b1, b2, nG, nP, base_of b3 (noD b3 (fun vs n z => ?_) fun z => ?_), b4, b5, b6⟩
        · rw [b6] at z
          cases z
        · rw [b6] at z
          cases z
      · obtain ⟨o, es, ep, e, hd, _⟩ := hns
        rw [z, hTp] at e
        cases e
        cases hd
    have e0 : Env0 P w K mg (hidT s₁.heap H) callerA [] s₁ H := ⟨rfl, hM, fun b o e => of_hidT e, Nat.le_of_eq (hidT_size _ _), trivial, fun b hb => absurd (show b ∈ ([] : List Addr) from hb) (by simp), hok, .of_eq hg⟩
    refine codeAny_mono ((F _ hKb (nsK hns) TB).run callerA [] s₁ H ⟨[.ref a], []⟩ [.ref a] [.ref a] _ _ hr rfl e0 (hbind s₁ (.ref a)) (.cons rfl .nil) (hsp H hH hS)) fun r s' h => ?_
    cases r with
    | error e => exact (hCX H e s' h).elim
    | ok fl =>
      cases fl with
      | next => exact False.elim h
      | brk => exact False.elim h
      | cont => exact False.elim h
      | ret u =>
        obtain ⟨v, H', os, bare, un, hok', r', q⟩ := h
        have q' : v = .bl true := q
        subst q'
        obtain rfl : u = Value.bool true := r'
        have key : ∀ b o, b ∉ cs.map (·.2) → s₁.heap.get? b = some o → s'.heap.get? b = some o := fun b o nb e => by
          cases q : H b with
          | none => exact un.keep b o e q (by intro z; exact absurd (show b ∈ ([] : List Addr) from z) (by simp)) (by simp)
          | some u =>
            rcases hO b with z | z | ⟨ob, xs, z⟩
            · rw [q] at z; cases z
            · exact absurd z nb
            · have z2 := un.frzs b ob _ z
              obtain ⟨e1, _⟩ := hok b _ z
              obtain ⟨e2, _⟩ := hok' b _ z2
              rw [e] at e1; cases e1
              exact e2
        have grown : ∀ p ∈ cs, ∃ more : Array Value, s'.heap.get? p.2 = some { cls := .none, data := .fields more } := fun p hp => by
          obtain ⟨more, z⟩ := un.tbls p.2 #[] (hH p hp)
          exact ⟨_, hok' p.2 _ z⟩
        refine ⟨rfl, ⟨fun b o e => ?_, fun b o e => ?_⟩, os, bare⟩
        · by_cases hb : b ∈ cs.map (·.2)
          · obtain ⟨p, hp, ep⟩ := List.mem_map.mp hb
            obtain ⟨more, hm⟩ := grown p hp
            rw [← ep] at e ⊢
            rw [hT p hp] at e
            cases e
            exact .inr (.inl ⟨((C p hp).tab (hT p hp)).isCodeTable, rfl, #[], more, rfl, by rw [Array.empty_append]; exact hm⟩)
          · exact .inl (key b o hb e)
        · by_cases hb : b ∈ cs.map (·.2)
          · obtain ⟨p, hp, ep⟩ := List.mem_map.mp hb
            obtain ⟨more, hm⟩ := grown p hp
            rw [← ep]
            exact ⟨_, hm⟩
          · exact ⟨o, key b o hb e⟩
  cases hk : K.lookup a with
  | some o =>
    have e := KX a o hk
    rw [ha] at e
    cases e
    refine core (fun b => if b ∈ cs.map (·.2) then some (.tbl #[]) else none) (fun p hp => if_pos (memT p hp)) (fun b => ?_) (.inr ⟨_, vs.toArray, _, hk, rfl, rfl, rfl, by rw [List.size_toArray, lenV]; exact hl, by simpa using rv⟩) (fun b u z => ?_) (fun b z => ?_) fun z => absurd (show (if a ∈ cs.map (·.2) then some (HO.tbl #[]) else none) = none from if_neg aT) z
    · by_cases hb : b ∈ cs.map (·.2)
      · exact .inr (.inl hb)
      · exact .inl (if_neg hb)
    · by_cases hb : b ∈ cs.map (·.2)
      · have z' := (if_pos hb).symm.trans z
        cases z'
        exact isT b hb
      · have z' := (if_neg hb).symm.trans z
        cases z'
    · by_cases hb : b ∈ cs.map (·.2)
      · exact .inr hb
      · exact absurd (if_neg hb) z
  | none =>
    refine core (fun b => if b = a then some (.frz { cls := .type "list", data := .seq vs.toArray } (.lst (ns.map V.int))) else if b ∈ cs.map (·.2) then some (.tbl #[]) else none) (fun p hp => (if_neg (show ¬ p.2 = a from fun z => aT (by rw [← z]; exact memT p hp))).trans (if_pos (memT p hp))) (fun b => ?_)
      (.inl (.inr ⟨{ cls := .type "list", data := .seq vs.toArray }, if_pos rfl⟩)) (fun b u z => ?_) (fun b z => ?_) fun _ => hk
    · by_cases hb : b = a
      · exact .inr (.inr ⟨_, _, if_pos hb⟩)
      · by_cases hb2 : b ∈ cs.map (·.2)
        · exact .inr (.inl hb2)
        · exact .inl ((if_neg hb).trans (if_neg hb2))
    · by_cases hb : b = a
      · have z' := (if_pos hb).symm.trans z
        cases z'
        rw [hb]
        exact ⟨ha, by rw [List.length_map]; exact hl, vs, _, rv, ha⟩
      · have z1 := (if_neg hb).symm.trans z
        by_cases hb2 : b ∈ cs.map (·.2)
        · have z' := (if_pos hb2).symm.trans z1
          cases z'
          exact isT b hb2
        · have z' := (if_neg hb2).symm.trans z1
          cases z'
    · by_cases hb : b = a
      · exact .inl hb
      · by_cases hb2 : b ∈ cs.map (·.2)
        · exact .inr hb2
        · exact absurd ((if_neg hb).trans (if_neg hb2)) z
/-- what is known of the law's promise at the head's heap h -/
def LawAtG (l : PySem.W.OpenLaw) (w : World) (K : PySem.W.Frag) (CX : CXT) (k n : Nat) (x : Str) (mg : Str → Option Value) (fa : Addr) (h : Heap) : Prop :=
  ∃ (fd : FuncData) (cs : List (Addr × Addr)) (sp : Sp), (∀ p ∈ cs, h.get? p.2 = some { cls := .none, data := .fields #[] }) ∧ (∀ p ∈ cs, K.lookup p.2 = none) ∧ (∀ p ∈ cs, PySem.W.CodeHd h p.1 p.2) ∧ (∀ (s : Shared) (u : Value), BindsTo s fd ⟨[u], []⟩ [(x, u)]) ∧
    (∀ (H : Hp) (a : Addr) (ns : List Int), ns.length ≤ n → (∀ z ∈ ns, Builtin.Int.intBits z ≤ 1048576) → (∀ p ∈ cs, H p.2 = some (.tbl #[])) → SqL K H a (ns.map V.int) → sp [.ref a] H (fun v _ => v = .bl true) fun _ _ _ => False) ∧
    ∀ base : Heap, K.In base → base.Ns mainGlobals mg → (∀ p ∈ cs, TabB base mg p.1 p.2) → FnOkG l.prog w K mg base CX k fa fd [x] sp
theorem walk_ofTsG {l : PySem.W.OpenLaw} {n k : Nat} {q : Program} {loose : List Str} {XP : (Str → Option Value) → Heap → Prop} {YP : World → Heap → Prop} {d : DefRec} {CX : World → CXT} {x : Str}
    (hn : l.most = some n) (hn2 : n ≤ sizeLine) (hdf : d.params.defaults = []) (hr : Room k callerA)
    (F : ∀ (w : World) (mg : Str → Option Value) (fa : Addr) (h : Heap), YP w h → h.Ns mainGlobals mg → mg d.name = some (.ref fa) → ∃ K : PySem.W.Frag, K.In h ∧ LawAtG l w K (CX w) k n x mg fa h)
    (hCX : ∀ (w : World) (H : Hp) (s : Shared) (e : Value) (s' : Shared), CX w [] H s (fun _ _ _ => False) e s' → False) :
    PySem.W.WalkO q loose XP YP l.row.toRowW d [] (fun f vs => PySem.call f vs) := by
  refine Att.attach_callB hn hdf fun w s₀ s₁ mg mb fa o pm cd doc a vs ns G Y ho hd hcd hmg hobj hints hlen hbits hg => ?_
  obtain ⟨K, KX, fd, cs, sp, hT, nT, C, hb, hsp, hF⟩ := F w mg fa _ Y G.T.g hmg
  exact law_callTsG KX G.T.g G.T.b G.T.builtins G.T.nolimit hg hT nT C G.T.bmain hobj hints (Nat.le_trans hlen hn2) hr hF hb (fun H hH hS => hsp H a ns hlen hbits hH hS) fun H e s' => hCX w H s₁ e s'
end SH
/-! R4 -/
set_option Elab.async false
set_option linter.all false
set_option maxRecDepth 100000
set_option maxHeartbeats 4000000
/-! several except clauses, each with a name or without (after HandS.TryMany and HandS.Exc). -/
namespace SH
open PySem PySem.Spec PyProof.Rows L2
/-- what the clauses wish of an exception of the body, one after the other -/
def wManyA (K : PySem.W.Frag) (Wout : WX) (D : Ends) : List (Value × Option Nat × (Addr → Value → Option Addr → TS)) → WX
  | [] => Wout
  | (c, none, ts) :: r => fun cls d σ H => ∃ b, PySem.W.exmOne K cls c = some b ∧ (b = true → ∀ a, H a = none → ts a cls d D σ H) ∧ (b = false → wManyA K Wout D r cls d σ H)
  | (c, some i, ts) :: r => fun cls d σ H => ∃ b, PySem.W.exmOne K cls c = some b ∧ (b = true → ∀ a, H a = none → ts a cls d { nx := fun σ' H' => D.nx (σ'.set i none) H', rt := D.rt, bk := fun σ' H' => D.bk (σ'.set i none) H', ct := fun σ' H' => D.ct (σ'.set i none) H' } (σ.set i (some (.ref a))) H) ∧
      (b = false → wManyA K Wout D r cls d σ H)
inductive HdsOkA (X : Cx) : List ExceptHandler → List (Value × Option Nat × (Addr → Value → Option Addr → TS)) → Prop
  | nil : HdsOkA X [] []
  | cons {x : Str} {c : Value} {ts : Addr → Value → Option Addr → TS} {b₀ : Stmt} {suite : List Stmt} {np pos' : Pos} {hds : List ExceptHandler} {l : List (Value × Option Nat × (Addr → Value → Option Addr → TS))} (hc : Names X x c)
      (hsu : ∀ (a : Addr) (oe : Obj) (cls : Value) (d : Option Addr) (pn : List (Addr × Obj)), Zc cls d oe → (∃ vs, oe.data = .fields vs) → PSs (X.suite a ((a, oe) :: pn)) (b₀ :: suite) (ts a cls d)) (r : HdsOkA X hds l) :
      HdsOkA X (.ExceptHandler (some (.Name x np)) none (b₀ :: suite) pos' :: hds) ((c, none, ts) :: l)
  | named {x n : Str} {i : Nat} {c : Value} {ts : Addr → Value → Option Addr → TS} {b₀ : Stmt} {suite : List Stmt} {np pos' : Pos} {hds : List ExceptHandler} {l : List (Value × Option Nat × (Addr → Value → Option Addr → TS))} (hc : Names X x c) (hi : X.N[i]? = some n) (hln : X.env.kindOf n = some .local)
      (hsu : ∀ (a : Addr) (oe : Obj) (cls : Value) (d : Option Addr) (pn : List (Addr × Obj)), Zc cls d oe → (∃ vs, oe.data = .fields vs) → PSs (X.suite a ((a, oe) :: pn)) (b₀ :: suite) (ts a cls d)) (r : HdsOkA X hds l) :
      HdsOkA X (.ExceptHandler (some (.Name x np)) (some n) (b₀ :: suite) pos' :: hds) ((c, some i, ts) :: l)
section
variable {X : Cx} {body : List Stmt} {h₀ : ExceptHandler} {hds : List ExceptHandler} {l : List (Value × Option Nat × (Addr → Value → Option Addr → TS))} {pos : Pos} {tb : WX → TS} {Wout : WX}
theorem ps_try_asmany (hN : X.N.Nodup) (hs : X.stack = X.env :: X.outer) (hf : X.env.frame = some X.env.locals) (tk : Takes X Wout)
    (hb : ∀ (W : WX) (pn : List (Addr × Obj)) (xe : Value → Shared → Prop), Takes (X.tr pn xe) W → PassesOwn (model X.prog X.w) X.A X.env xe → PSs (X.tr pn xe) body (tb W))
    (hh : HdsOkA X (h₀ :: hds) l) : PS X (.Try body (h₀ :: hds) [] [] pos) (fun D σ H => tb (wManyA X.K Wout D l) D σ H) := by
  refine ⟨fun pins s σ H D I h => ?_⟩
  have ok := I.ok
  have hfr : X.A.frames = some (X.env :: X.outer) := by rw [ok.frames, hs]
  refine wpAny_Try_except ?_
  refine wpAny_mono ((hb (wManyA X.K Wout D l) (X.pn ++ pins) (fun e s₁ => wpAny (model X.prog X.w) X.A (noteFrame e X.env) (fun _ s₂ => wpAny (model X.prog X.w) X.A (setFlight e none) (fun _ s₃ =>
    wpAny (model X.prog X.w) X.A (handleBy e X.env (h₀ :: hds)) (SP X pins D) X.xe s₃) X.xe s₂) X.xe s₁) (fun u s' xx => ?_) PassesOwn.looking).run [] s σ H D (I.toTry _) h) (fun f s1 hsp => ?_) (fun e s1 he => he)
  · -- the catch
    obtain ⟨a, B, sI, pins', σ', H', cls, d, rfl, J', nb, up, sky, na, os, ag, w⟩ := xx
    have J : Inv X pins σ' H' sI := J'.ofTry ok
    have sky' : Sky B (X.env :: X.outer) a (Zc cls d) X.env.locals s'.heap := by rw [← hs]; exact sky
    show wpAny (model X.prog X.w) X.A (noteFrame (.ref a) X.env) _ _ _
    refine Sky.land Zc.steady hfr hf sky' fun h3 fl3 up3 => ?_
    have J3 : Inv X pins σ' H' { s' with heap := h3 } := J.landed nb fl3.1 (up.trans up3) os ag
    obtain ⟨oe3, vs3, he3, hz3, hd3⟩ := fl3.there
    have notFr : ∀ {h : Heap} {o : Obj} {vs : Array Value}, h.FunFrames B (X.env :: X.outer) → h.get? a = some o → o.data = .fields vs → a ∉ frs (X.env :: X.outer) := fun {h o vs} ff e dd hm => by
      obtain ⟨_, o', e', hnf⟩ := ff.mem hm
      rw [e] at e'; cases e'
      exact hnf _ dd
    have nfr := notFr fl3.2.2.1 he3 hd3
    have nL : a ≠ X.env.locals := fun z => nfr (List.mem_filterMap.mpr ⟨X.env, List.mem_cons_self, by rw [hf, z]⟩)
    have nF : a ∉ X.fs := fun hm => by
      obtain ⟨e, he, q⟩ := List.mem_filterMap.mp hm
      exact nfr (List.mem_filterMap.mpr ⟨e, List.mem_cons_of_mem _ he, q⟩)
    have S3 := J3.suite he3 hd3 na nL nF
    have go : ∀ {hds' : List ExceptHandler} {l' : List (Value × Option Nat × (Addr → Value → Option Addr → TS))}, HdsOkA X hds' l' → wManyA X.K Wout D l' cls d σ' H' →
        wpAny (model X.prog X.w) X.A (handleBy (.ref a) X.env hds') (SP X pins D) X.xe { s' with heap := h3 } := by
      intro hds' l' hk
      induction hk with
      | nil =>
        intro w
        refine wpAny_handleBy_nil ?_
        obtain ⟨k1, k2, k3, oe, vs, T, oT, ts', he, hz, hd, h1, hr⟩ := id fl3
        unfold PySem.passOn
        refine wpAny_bind (wpAny_field he hd h1 ?_)
        rw [if_neg (show ¬ ((Value.ref T == Value.none) = true) from by simp)]
        have fin : wpAny (model X.prog X.w) X.A (setFlight (.ref a) X.env.frame) (fun _ s4 => wpAny (model X.prog X.w) X.A (throw (.ref a) : Sem Flow) (SP X pins D) X.xe s4) X.xe { s' with heap := h3 } := by
          rw [hf]
          refine HandSPX.setFlight_upZ fl3 fun h4 hh4 up4 => wpAny_throw (tk _ _ ?_)
          exact ⟨a, B, sI, pins, σ', H', cls, d, rfl, J, nb, (up.trans up3).trans up4, .inr (.inr (by rw [hs]; exact hh4)), na, os, ag, w⟩
        first
          | exact wpAny_bind (wpAny_pure (wpAny_bind fin))
          | exact wpAny_bind fin
      | @named x n i c ts b₀ suite np pos' hds2 l2 hc hi hln hsu r ih =>
        intro w
        obtain ⟨b, hb1, hyes, hno⟩ := w
        refine wpAny_handleBy_cons (codeAny_handlers_test ?_) (by intro q; cases q)
        have LT : PySem.W.Looks (model X.prog X.w) h3 (typeOf (.ref a)) cls := fun A Q E s k q => wpAny_typeOf_ref (k _ _ he3) (by rw [hz3.1]; exact q)
        have LM := PySem.W.exm_one (M := model X.prog X.w) (J3.kIn) LT hb1
        have test : ∀ {Q : Value → Shared → Prop} {E : Value → Shared → Prop}, Q c { s' with heap := h3 } → wpAny (model X.prog X.w) (X.A.mark (some (.ref a))) (eval (.Name x np) X.env) Q E { s' with heap := h3 } := fun {Q E} q => by
          obtain ⟨hg, hdbg, hm | ⟨hm, hv, hnn⟩⟩ := hc
          · exact ld_glob (X := X.suite a ((a, oe3) :: (X.pn ++ pins))) S3 hg hm q hdbg
          · exact ld_blt (X := X.suite a ((a, oe3) :: (X.pn ++ pins))) S3 hg hm hv q hnn hdbg
        refine test (LM.here ?_)
        cases b with
        | true =>
          refine codeAny_handlers_suite_as ?_
          refine HandSPX.lands_againZ fl3 fun h4 fl4 up4 => ?_
          have J4 : Inv X pins σ' H' { s' with heap := h4 } := J.landed nb fl4.1 ((up.trans up3).trans up4) os ag
          obtain ⟨oe4, vs4, he4, hz4, hd4⟩ := fl4.there
          have S4 := J4.suite he4 hd4 na nL nF
          refine store_ok (X := X.suite a ((a, oe4) :: (X.pn ++ pins))) (v := .ref a) S4 hN hi (.inl hln) rfl (fun s5 S5 => ?_) (.inr hln)
          refine wpAny_mono ((hsu a oe4 cls d (X.pn ++ pins) hz4 ⟨_, hd4⟩).run [] s5 _ H' _ S5 (hyes rfl a na)) (fun f s6 hsp => ?_) (fun _ _ z => False.elim z)
          have end_ : ∀ {σ6 : L2.St} {H6 : Hp} {Q : Shared → Prop}, Inv (X.suite a ((a, oe4) :: (X.pn ++ pins))) [] σ6 H6 s6 → (∀ s7, Inv X pins (σ6.set i none) H6 s7 → Q s7) →
              wpAny (model X.prog X.w) X.A (do bindName X.env n .none; unbindBehindTheSuite X.env n pos') (fun _ s7 => Q s7) X.xe s6 := fun {σ6 H6 Q} S6 hq => gone_ok (S6.unsuite ok) hN hi hln hq
          cases f with
          | next =>
            obtain ⟨σ6, H6, S6, q6⟩ := hsp
            exact end_ S6 fun s7 J7 => ⟨_, _, J7, q6⟩
          | brk =>
            obtain ⟨σ6, H6, S6, q6⟩ := hsp
            exact end_ S6 fun s7 J7 => ⟨_, _, J7, q6⟩
          | cont =>
            obtain ⟨σ6, H6, S6, q6⟩ := hsp
            exact end_ S6 fun s7 J7 => ⟨_, _, J7, q6⟩
          | ret u =>
            obtain ⟨v6, σ6, H6, S6, r6, q6⟩ := hsp
            exact end_ S6 fun s7 J7 => ⟨_, _, _, J7, r6, q6⟩
        | false =>
          show wpAny _ X.A (handleBy (.ref a) X.env hds2) _ _ _
          exact ih (hno rfl)
      | @cons x c ts b₀ suite np pos' hds2 l2 hc hsu r ih =>
        intro w
        obtain ⟨b, hb1, hyes, hno⟩ := w
        refine wpAny_handleBy_cons (codeAny_handlers_test ?_) (by intro q; cases q)
        have LT : PySem.W.Looks (model X.prog X.w) h3 (typeOf (.ref a)) cls := fun A Q E s k q => wpAny_typeOf_ref (k _ _ he3) (by rw [hz3.1]; exact q)
        have LM := PySem.W.exm_one (M := model X.prog X.w) (J3.kIn) LT hb1
        have test : ∀ {Q : Value → Shared → Prop} {E : Value → Shared → Prop}, Q c { s' with heap := h3 } → wpAny (model X.prog X.w) (X.A.mark (some (.ref a))) (eval (.Name x np) X.env) Q E { s' with heap := h3 } := fun {Q E} q => by
          obtain ⟨hg, hdbg, hm | ⟨hm, hv, hnn⟩⟩ := hc
          · exact ld_glob (X := X.suite a ((a, oe3) :: (X.pn ++ pins))) S3 hg hm q hdbg
          · exact ld_blt (X := X.suite a ((a, oe3) :: (X.pn ++ pins))) S3 hg hm hv q hnn hdbg
        refine test (LM.here ?_)
        cases b with
        | true =>
          refine codeAny_handlers_suite ?_
          refine HandSPX.lands_againZ fl3 fun h4 fl4 up4 => ?_
          have J4 : Inv X pins σ' H' { s' with heap := h4 } := J.landed nb fl4.1 ((up.trans up3).trans up4) os ag
          obtain ⟨oe4, vs4, he4, hz4, hd4⟩ := fl4.there
          have S4 := J4.suite he4 hd4 na nL nF
          refine wpAny_mono ((hsu a oe4 cls d (X.pn ++ pins) hz4 ⟨_, hd4⟩).run [] _ _ H' _ S4 (hyes rfl a na)) (fun f s6 hsp => ?_) (fun _ _ z => False.elim z)
          cases f with
          | next =>
            obtain ⟨σ6, H6, S6, q6⟩ := hsp
            exact ⟨_, _, S6.unsuite ok, q6⟩
          | brk =>
            obtain ⟨σ6, H6, S6, q6⟩ := hsp
            exact ⟨_, _, S6.unsuite ok, q6⟩
          | cont =>
            obtain ⟨σ6, H6, S6, q6⟩ := hsp
            exact ⟨_, _, S6.unsuite ok, q6⟩
          | ret u =>
            obtain ⟨v6, σ6, H6, S6, r6, q6⟩ := hsp
            exact ⟨_, _, _, S6.unsuite ok, r6, q6⟩
        | false =>
          show wpAny _ X.A (handleBy (.ref a) X.env hds2) _ _ _
          exact ih (hno rfl)
    exact go hh w
  · cases f with
    | next =>
      obtain ⟨σ', H', J', q⟩ := hsp
      exact wpAny_execs_nil ⟨σ', H', J'.ofTry ok, q⟩
    | brk =>
      obtain ⟨σ', H', J', q⟩ := hsp
      exact ⟨σ', H', J'.ofTry ok, q⟩
    | cont =>
      obtain ⟨σ', H', J', q⟩ := hsp
      exact ⟨σ', H', J'.ofTry ok, q⟩
    | ret u =>
      obtain ⟨v, σ', H', J', r, q⟩ := hsp
      exact ⟨v, σ', H', J'.ofTry ok, r, q⟩
end
end SH
/-! Mth -/
set_option Elab.async false
set_option linter.all false
/-! The plain law: a search for least greatest values, its levels and its ways. -/
namespace SH
section
variable {α : Type} [DecidableEq α]

def fput {β : Type} (f : α → β) (k : α) (v : β) : α → β := fun j => if j = k then v else f j
theorem fput_same {β : Type} {f : α → β} {k : α} {v : β} : fput f k v k = v := if_pos rfl
theorem fput_ne {β : Type} {f : α → β} {k j : α} {v : β} (h : j ≠ k) : fput f k v j = f j := if_neg h
def mx (i j : Int) : Int := if j > i then j else i
theorem mx_left (i j : Int) : i ≤ mx i j := by unfold mx; split <;> omega
theorem mx_right (i j : Int) : j ≤ mx i j := by unfold mx; split <;> omega
theorem mx_le {i j L : Int} (h1 : i ≤ L) (h2 : j ≤ L) : mx i j ≤ L := by unfold mx; split <;> omega
theorem mx_or (i j : Int) : mx i j = i ∨ mx i j = j := by unfold mx; split <;> simp

/-- the state of the search: levels, the place before, what waits -/
structure SS (α : Type) where
  lev : α → Option Int
  bef : α → Option (Option α)
  wt : α → Bool

/-- reached by places with values of at most L -/
inductive Rch (near : α → List α) (val : α → Int) (L : Int) (s : α) : α → Prop
  | base : val s ≤ L → Rch near val L s s
  | step {p q : α} : Rch near val L s p → q ∈ near p → val q ≤ L → Rch near val L s q

def KLt (lt : α → α → Prop) (s : SS α) (x y : α) : Prop := ∃ a b, s.lev x = some a ∧ s.lev y = some b ∧ (a < b ∨ (a = b ∧ lt x y))
def IsMin (lt : α → α → Prop) (s : SS α) (x : α) : Prop := s.wt x = true ∧ ∀ y, s.wt y = true → y ≠ x → KLt lt s x y
theorem IsMin.uniq {lt : α → α → Prop} (as : ∀ a b, lt a b → ¬ lt b a) {s : SS α} {x y : α} (h : IsMin lt s x) (k : IsMin lt s y) : x = y := by
  by_cases e : x = y
  · exact e
  · obtain ⟨a, b, ha, hb, h1⟩ := h.2 y k.1 (fun z => e z.symm)
    obtain ⟨c, d, hc, hd, h2⟩ := k.2 x h.1 e
    rw [ha] at hd; rw [hb] at hc
    cases hc; cases hd
    rcases h1 with h1 | ⟨h1, h1'⟩
    · rcases h2 with h2 | ⟨h2, _⟩ <;> omega
    · rcases h2 with h2 | ⟨_, h2'⟩
      · omega
      · exact (as _ _ h1' h2').elim

/-- a neighbour is looked at -/
def better (val : α → Int) (lh : Int) (s : SS α) (o : α) : Bool := match s.lev o with
  | none => true
  | some m => decide (mx lh (val o) < m)
def relax (val : α → Int) (here : α) (lh : Int) (s : SS α) (o : α) : SS α :=
  if better val lh s o = true then ⟨fput s.lev o (some (mx lh (val o))), fput s.bef o (some (some here)), fput s.wt o true⟩ else s
def popped (s : SS α) (x : α) : SS α := ⟨s.lev, s.bef, fput s.wt x false⟩
def turn (near : α → List α) (val : α → Int) (s : SS α) (x : α) (l : Int) : SS α := (near x).foldl (relax val x l) (popped s x)
inductive Run (near : α → List α) (val : α → Int) (lt : α → α → Prop) : SS α → SS α → Prop
  | done {s : SS α} : (∀ x, s.wt x = false) → Run near val lt s s
  | turn {s f : SS α} {x : α} {l : Int} : IsMin lt s x → s.lev x = some l → Run near val lt (turn near val s x l) f → Run near val lt s f
theorem Run.det {near : α → List α} {val : α → Int} {lt : α → α → Prop} (as : ∀ a b, lt a b → ¬ lt b a) {s f g : SS α} (h : Run near val lt s f) (k : Run near val lt s g) : f = g := by
  induction h generalizing g with
  | done h =>
    cases k with
    | done _ => rfl
    | turn m _ _ => have := m.1; rw [h] at this; cases this
  | turn m hl _ ih =>
    cases k with
    | done h => have := m.1; rw [h] at this; cases this
    | turn m' hl' r' =>
      cases m.uniq as m'
      rw [hl] at hl'; cases hl'
      exact ih r'
def start (val : α → Int) (st : α) : SS α := ⟨fput (fun _ => none) st (some (val st)), fput (fun _ => none) st (some none), fput (fun _ => false) st true⟩

/-- what holds behind every turn; done: the places taken out, the latest first; E: the edges looked at -/
structure J (near : α → List α) (val : α → Int) (st : α) (s : SS α) (done : List α) (E : α → α → Prop) : Prop where
  nd : done.Nodup
  dw : ∀ x ∈ done, s.wt x = false
  keys : ∀ x, (s.lev x).isSome = true ↔ (x ∈ done ∨ s.wt x = true)
  ord : ∀ x ∈ done, ∀ y, s.wt y = true → ∀ a b, s.lev x = some a → s.lev y = some b → a ≤ b
  st0 : s.lev st = some (val st) ∧ s.bef st = some none
  par : ∀ x l, x ≠ st → s.lev x = some l → ∃ q lq, s.bef x = some (some q) ∧ q ∈ done ∧ x ∈ near q ∧ s.lev q = some lq ∧ l = mx lq (val x)
  ranked : ∀ pre x rest, done = pre ++ x :: rest → x = st ∨ ∃ q, q ∈ rest ∧ s.bef x = some (some q)
  eD : ∀ d q, E d q → d ∈ done
  edge : ∀ d q, E d q → ∃ lq ld, s.lev q = some lq ∧ s.lev d = some ld ∧ lq ≤ mx ld (val q)
  nob : ∀ x, s.lev x = none → s.bef x = none

variable {near : α → List α} {val : α → Int} {lt : α → α → Prop} {st : α}
theorem J.start (st : α) : J near val st (start val st) [] (fun _ _ => False) := by
  refine ⟨List.nodup_nil, fun x h => by simp at h, fun x => ?_, fun x h => by simp at h, ⟨by simp [SH.start, fput_same], by simp [SH.start, fput_same]⟩, fun x l hx e => ?_, fun pre x rest e => by simp at e, fun _ _ h => h.elim, fun _ _ h => h.elim, fun x e => ?_⟩
  · by_cases h : x = st
    · subst h; simp [SH.start, fput_same]
    · simp [SH.start, fput_ne h]
  · simp [SH.start, fput_ne hx] at e
  · by_cases h : x = st
    · subst h; simp [SH.start, fput_same] at e
    · simp [SH.start, fput_ne h]

theorem J.pop {s : SS α} {done : List α} {E : α → α → Prop} {x : α} {l : Int} (j : J near val st s done E) (m : IsMin lt s x) (hl : s.lev x = some l) :
    J near val st (popped s x) (x :: done) E ∧ ∀ d ∈ x :: done, ∀ a, s.lev d = some a → a ≤ l := by
  have xn : x ∉ done := fun h => by have := j.dw x h; rw [m.1] at this; cases this
  refine ⟨⟨List.nodup_cons.mpr ⟨xn, j.nd⟩, fun d hd => ?_, fun y => ?_, fun d hd y hy a b ha hb => ?_, j.st0, fun y a hy e => ?_, fun pre y rest e => ?_, fun d q h => List.mem_cons_of_mem _ (j.eD d q h), j.edge, j.nob⟩, fun d hd a ha => ?_⟩
  · show fput s.wt x false d = false
    by_cases e : d = x
    · subst e; exact fput_same
    · rw [fput_ne e]; exact j.dw d ((List.mem_cons.mp hd).resolve_left e)
  · show (s.lev y).isSome = true ↔ _ ∨ fput s.wt x false y = true
    rw [j.keys y, List.mem_cons]
    by_cases e : y = x
    · subst e; simp [m.1]
    · rw [fput_ne e]; simp [e]
  · have hy' : fput s.wt x false y = true := hy
    have ne : y ≠ x := fun e => by rw [e, fput_same] at hy'; cases hy'
    rw [fput_ne ne] at hy'
    rcases List.mem_cons.mp hd with e | hd
    · subst e
      obtain ⟨a', b', h1, h2, h3⟩ := m.2 y hy' ne
      have ha' : s.lev d = some a := ha
      have hb' : s.lev y = some b := hb
      rw [h1] at ha'; rw [h2] at hb'
      cases ha'; cases hb'
      rcases h3 with h3 | ⟨h3, _⟩ <;> omega
    · exact j.ord d hd y hy' a b ha hb
  · obtain ⟨q, lq, h1, h2, h3, h4, h5⟩ := j.par y a hy e
    exact ⟨q, lq, h1, List.mem_cons_of_mem _ h2, h3, h4, h5⟩
  · cases pre with
    | nil =>
      simp only [List.nil_append, List.cons.injEq] at e
      obtain ⟨e1, e2⟩ := e
      subst e1 e2
      by_cases h : x = st
      · exact .inl h
      · obtain ⟨q, lq, h1, h2, _⟩ := j.par x l h hl
        exact .inr ⟨q, h2, h1⟩
    | cons p pre =>
      simp only [List.cons_append, List.cons.injEq] at e
      exact j.ranked pre y rest e.2
  · rcases List.mem_cons.mp hd with e | hd
    · subst e; rw [hl] at ha; cases ha; omega
    · exact j.ord d hd x m.1 a l ha hl

theorem J.relax {t : SS α} {done : List α} {E : α → α → Prop} {x o : α} {l : Int} (j : J near val st t (x :: done) E) (hl : t.lev x = some l) (hle : ∀ d ∈ x :: done, ∀ a, t.lev d = some a → a ≤ l) (ho : o ∈ near x) :
    J near val st (relax val x l t o) (x :: done) (fun d q => E d q ∨ (d = x ∧ q = o)) ∧ (relax val x l t o).lev x = some l ∧ ∀ d ∈ x :: done, ∀ a, (relax val x l t o).lev d = some a → a ≤ l := by
  unfold SH.relax
  by_cases hb : better val l t o = true
  · rw [if_pos hb]
    have no : o ∉ x :: done := fun h => by
      have hs := (j.keys o).mpr (.inl h)
      obtain ⟨m, hm⟩ := Option.isSome_iff_exists.mp hs
      unfold better at hb
      rw [hm] at hb
      have := of_decide_eq_true hb
      have := hle o h m hm
      have := mx_left l (val o)
      omega
    have nst : o ≠ st := fun e => by
      unfold better at hb
      rw [e, j.st0.1] at hb
      have := of_decide_eq_true hb
      have := mx_right l (val st)
      omega
    have nx : x ≠ o := fun e => no (by rw [← e]; exact List.mem_cons_self)
    have nd : ∀ d ∈ x :: done, d ≠ o := fun d hd e => no (by rw [← e]; exact hd)
    refine ⟨⟨j.nd, fun d hd => ?_, fun y => ?_, fun d hd y hy a b ha hb' => ?_, ⟨?_, ?_⟩, fun y a hy e => ?_, fun pre y rest e => ?_, fun d q h => ?_, fun d q h => ?_, fun y e => ?_⟩, ?_, fun d hd a ha => ?_⟩
    · show fput t.wt o true d = false
      rw [fput_ne (nd d hd)]; exact j.dw d hd
    · show (fput t.lev o _ y).isSome = true ↔ _ ∨ fput t.wt o true y = true
      by_cases e : y = o
      · subst e; simp [fput_same]
      · rw [fput_ne e, fput_ne e]; exact j.keys y
    · have ha' : fput t.lev o (some (mx l (val o))) d = some a := ha
      have hb2 : fput t.lev o (some (mx l (val o))) y = some b := hb'
      have hy' : fput t.wt o true y = true := hy
      rw [fput_ne (nd d hd)] at ha'
      by_cases e : y = o
      · subst e
        rw [fput_same] at hb2; cases hb2
        have := hle d hd a ha'
        have := mx_left l (val y)
        omega
      · rw [fput_ne e] at hb2 hy'
        exact j.ord d hd y hy' a b ha' hb2
    · show fput t.lev o _ st = _
      rw [fput_ne (Ne.symm nst)]; exact j.st0.1
    · show fput t.bef o _ st = _
      rw [fput_ne (Ne.symm nst)]; exact j.st0.2
    · have e' : fput t.lev o (some (mx l (val o))) y = some a := e
      show ∃ q lq, fput t.bef o (some (some x)) y = some (some q) ∧ _ ∧ _ ∧ fput t.lev o (some (mx l (val o))) q = some lq ∧ _
      by_cases ey : y = o
      · subst ey
        rw [fput_same] at e'; cases e'
        exact ⟨x, l, fput_same, List.mem_cons_self, ho, by rw [fput_ne nx]; exact hl, rfl⟩
      · rw [fput_ne ey] at e'
        obtain ⟨q, lq, h1, h2, h3, h4, h5⟩ := j.par y a hy e'
        exact ⟨q, lq, by rw [fput_ne ey]; exact h1, h2, h3, by rw [fput_ne (nd q h2)]; exact h4, h5⟩
    · have hy : y ∈ x :: done := by rw [e]; simp
      rcases j.ranked pre y rest e with h | ⟨q, h1, h2⟩
      · exact .inl h
      · refine .inr ⟨q, h1, ?_⟩
        show fput t.bef o _ y = _
        rw [fput_ne (nd y hy)]; exact h2
    · rcases h with h | ⟨h, _⟩
      · exact j.eD d q h
      · rw [h]; exact List.mem_cons_self
    · show ∃ lq ld, fput t.lev o (some (mx l (val o))) q = some lq ∧ fput t.lev o (some (mx l (val o))) d = some ld ∧ _
      rcases h with h | ⟨h1, h2⟩
      · obtain ⟨lq, ld, h1, h2, h3⟩ := j.edge d q h
        have hd := nd d (j.eD d q h)
        by_cases e : q = o
        · subst e
          refine ⟨_, ld, fput_same, by rw [fput_ne hd]; exact h2, ?_⟩
          unfold better at hb
          rw [h1] at hb
          have := of_decide_eq_true hb
          omega
        · exact ⟨lq, ld, by rw [fput_ne e]; exact h1, by rw [fput_ne hd]; exact h2, h3⟩
      · subst h1 h2
        exact ⟨_, l, fput_same, by rw [fput_ne nx]; exact hl, Int.le_refl _⟩
    · have e' : fput t.lev o (some (mx l (val o))) y = none := e
      show fput t.bef o _ y = none
      by_cases ey : y = o
      · subst ey; rw [fput_same] at e'; cases e'
      · rw [fput_ne ey] at e' ⊢; exact j.nob y e'
    · show fput t.lev o _ x = _
      rw [fput_ne nx]; exact hl
    · have ha' : fput t.lev o (some (mx l (val o))) d = some a := ha
      rw [fput_ne (nd d hd)] at ha'
      exact hle d hd a ha'
  · rw [if_neg hb]
    refine ⟨⟨j.nd, j.dw, j.keys, j.ord, j.st0, j.par, j.ranked, fun d q h => ?_, fun d q h => ?_, j.nob⟩, hl, hle⟩
    · rcases h with h | ⟨h, _⟩
      · exact j.eD d q h
      · rw [h]; exact List.mem_cons_self
    · rcases h with h | ⟨h1, h2⟩
      · exact j.edge d q h
      · subst h1 h2
        unfold better at hb
        cases e : t.lev q with
        | none => rw [e] at hb; exact absurd rfl hb
        | some m =>
          rw [e] at hb
          have : ¬ mx l (val q) < m := fun z => hb (decide_eq_true z)
          exact ⟨m, l, rfl, hl, by omega⟩
theorem J.relaxAll {done : List α} {x : α} {l : Int} : ∀ (os : List α) {t : SS α} {E : α → α → Prop}, J near val st t (x :: done) E → t.lev x = some l → (∀ d ∈ x :: done, ∀ a, t.lev d = some a → a ≤ l) → (∀ o ∈ os, o ∈ near x) →
    J near val st (os.foldl (SH.relax val x l) t) (x :: done) (fun d q => E d q ∨ (d = x ∧ q ∈ os))
  | [], t, E, j, _, _, _ => by
    have e : (fun d q => E d q ∨ (d = x ∧ q ∈ ([] : List α))) = E := by funext d q; simp
    rw [e]; exact j
  | o :: os, t, E, j, hl, hle, ho => by
    obtain ⟨j1, hl1, hle1⟩ := j.relax hl hle (ho o List.mem_cons_self)
    have j2 := J.relaxAll os j1 hl1 hle1 (fun p hp => ho p (List.mem_cons_of_mem _ hp))
    have e : (fun d q => E d q ∨ (d = x ∧ q ∈ o :: os)) = (fun d q => (E d q ∨ (d = x ∧ q = o)) ∨ (d = x ∧ q ∈ os)) := by
      funext d q; simp only [List.mem_cons, eq_iff_iff]
      constructor
      · rintro (h | ⟨h, h' | h'⟩)
        · exact .inl (.inl h)
        · exact .inl (.inr ⟨h, h'⟩)
        · exact .inr ⟨h, h'⟩
      · rintro ((h | ⟨h, h'⟩) | ⟨h, h'⟩)
        · exact .inl h
        · exact .inr ⟨h, .inl h'⟩
        · exact .inr ⟨h, .inr h'⟩
    rw [e]; exact j2
/-- behind every turn of the while loop -/
abbrev JJ (near : α → List α) (val : α → Int) (st : α) (s : SS α) (done : List α) : Prop := J near val st s done (fun d q => d ∈ done ∧ q ∈ near d)
theorem JJ.start (st : α) : JJ near val st (start val st) [] := by
  have e : (fun d q => d ∈ ([] : List α) ∧ q ∈ near d) = fun _ _ => False := by funext d q; simp
  unfold JJ; rw [e]; exact J.start st
theorem JJ.turn {s : SS α} {done : List α} {x : α} {l : Int} (j : JJ near val st s done) (m : IsMin lt s x) (hl : s.lev x = some l) : JJ near val st (turn near val s x l) (x :: done) := by
  obtain ⟨j1, h1⟩ := j.pop m hl
  have j2 := J.relaxAll (near x) j1 hl h1 (fun _ h => h)
  have e : (fun d q => d ∈ x :: done ∧ q ∈ near d) = (fun d q => (d ∈ done ∧ q ∈ near d) ∨ (d = x ∧ q ∈ near x)) := by
    funext d q; simp only [List.mem_cons, eq_iff_iff]
    constructor
    · rintro ⟨h | h, h'⟩
      · exact .inr ⟨h, by rw [← h]; exact h'⟩
      · exact .inl ⟨h, h'⟩
    · rintro (⟨h, h'⟩ | ⟨h, h'⟩)
      · exact ⟨.inr h, h'⟩
      · exact ⟨.inl h, by rw [h]; exact h'⟩
  unfold JJ; rw [e]; exact j2
theorem JJ.run {s f : SS α} (r : Run near val lt s f) : ∀ {done : List α}, JJ near val st s done → ∃ done', JJ near val st f done' ∧ ∀ x, f.wt x = false := by
  induction r with
  | done h => intro done j; exact ⟨done, j, h⟩
  | turn m hl _ ih => intro done j; exact ih (j.turn m hl)

theorem Rch.mono {L M : Int} (h : L ≤ M) {p : α} (r : Rch near val L st p) : Rch near val M st p := by
  induction r with
  | base h1 => exact .base (by omega)
  | step _ h1 h2 ih => exact .step ih h1 (by omega)
theorem Rch.trans {L : Int} {p q : α} (r : Rch near val L st p) (k : Rch near val L p q) : Rch near val L st q := by
  induction k with
  | base _ => exact r
  | step _ h1 h2 ih => exact .step ih h1 h2

/-- the places before, from a place to the start -/
inductive BC (bef : α → Option (Option α)) : List α → Prop
  | one {x : α} : bef x = some none → BC bef [x]
  | cons {x q : α} {r : List α} : bef x = some (some q) → BC bef (q :: r) → BC bef (x :: q :: r)
theorem BC.uniq {bef : α → Option (Option α)} : ∀ {r r' : List α} {p : α}, BC bef (p :: r) → BC bef (p :: r') → r = r' := by
  intro r
  induction r with
  | nil =>
    intro r' p h k
    cases h with
    | one h =>
      cases k with
      | one _ => rfl
      | cons k _ => rw [h] at k; cases k
  | cons q r ih =>
    intro r' p h k
    cases h with
    | cons h h' =>
      cases k with
      | one k => rw [h] at k; cases k
      | cons k k' =>
        rw [h] at k
        have e := Option.some.inj (Option.some.inj k)
        subst e
        rw [ih h' k']
/-- two in a row -/
def Lk (R : α → α → Prop) (w : List α) : Prop := ∀ (i : Nat) a b, w[i]? = some a → w[i + 1]? = some b → R a b
/-- a way back: from p to the start, its values at most l, one of them l -/
structure Way (near : α → List α) (val : α → Int) (st : α) (bef : α → Option (Option α)) (p : α) (l : Int) (r : List α) : Prop where
  bc : BC bef (p :: r)
  nd : (p :: r).Nodup
  lk : Lk (fun x q => x ∈ near q) (p :: r)
  le : ∀ y ∈ p :: r, val y ≤ l
  at_ : ∃ y ∈ p :: r, val y = l
  last : (p :: r).getLast? = some st
theorem J.ways {s : SS α} {done : List α} {E : α → α → Prop} (j : J near val st s done E) : ∀ (suf pre : List α), done = pre ++ suf → ∀ p ∈ suf, ∀ l, s.lev p = some l → Rch near val l st p ∧ ∃ r, (∀ y ∈ p :: r, y ∈ suf) ∧ Way near val st s.bef p l r := by
  intro suf
  induction suf with
  | nil => intro pre _ p hp; simp at hp
  | cons x suf ih =>
    intro pre e p hp l hl
    have e2 : done = (pre ++ [x]) ++ suf := by rw [e]; simp
    rcases List.mem_cons.mp hp with h | h
    · subst h
      have xn : p ∉ suf := by
        have := j.nd
        rw [e] at this
        exact (List.nodup_cons.mp (List.nodup_append.mp this).2.1).1
      by_cases hs : p = st
      · subst hs
        have e3 := j.st0.1
        rw [hl] at e3; cases e3
        refine ⟨.base (Int.le_refl _), [], by simp, .one j.st0.2, by simp, fun i a b h1 h2 => by simp at h2, by simp, by simp, by simp⟩
      · obtain ⟨q, lq, h1, _, h3, h4, h5⟩ := j.par p l hs hl
        have hq : q ∈ suf := by
          rcases j.ranked pre p suf e with z | ⟨q', z1, z2⟩
          · exact absurd z hs
          · rw [h1] at z2
            have := Option.some.inj (Option.some.inj z2)
            rw [this]; exact z1
        obtain ⟨r1, r, sub, w⟩ := ih _ e2 q hq lq h4
        have q1 := mx_left lq (val p)
        have q2 := mx_right lq (val p)
        refine ⟨.step (r1.mono (by omega)) h3 (by omega), q :: r, fun y hy => ?_, .cons h1 w.bc, ?_, ?_, ?_, ?_, ?_⟩
        · rcases List.mem_cons.mp hy with z | z
          · rw [z]; exact List.mem_cons_self
          · exact List.mem_cons_of_mem _ (sub y z)
        · exact List.nodup_cons.mpr ⟨fun z => xn (sub p z), w.nd⟩
        · intro i a b ha hb
          cases i with
          | zero =>
            simp at ha hb
            subst ha hb
            exact h3
          | succ i =>
            simp at ha hb
            exact w.lk i a b (by simpa using ha) (by simpa using hb)
        · intro y hy
          rcases List.mem_cons.mp hy with z | z
          · rw [z]; omega
          · have := w.le y z; omega
        · rcases mx_or lq (val p) with z | z
          · obtain ⟨y, hy, ey⟩ := w.at_
            exact ⟨y, List.mem_cons_of_mem _ hy, by omega⟩
          · exact ⟨p, List.mem_cons_self, by omega⟩
        · rw [List.getLast?_cons_cons]; exact w.last
    · obtain ⟨r1, r, sub, w⟩ := ih _ e2 p h l hl
      exact ⟨r1, r, fun y hy => List.mem_cons_of_mem _ (sub y hy), w⟩
/-- what the search finds -/
structure Found (near : α → List α) (val : α → Int) (st : α) (f : SS α) : Prop where
  lev : ∀ p L, Rch near val L st p ↔ ∃ l, f.lev p = some l ∧ l ≤ L
  way : ∀ p l, f.lev p = some l → ∃ r, Way near val st f.bef p l r
  nob : ∀ x, f.lev x = none → f.bef x = none
  st0 : f.lev st = some (val st)
theorem Run.found {f : SS α} (r : Run near val lt (SH.start val st) f) : Found near val st f := by
  obtain ⟨done, j, hw⟩ := JJ.run r (JJ.start st)
  have hd : ∀ x, (f.lev x).isSome = true → x ∈ done := fun x h => by
    rcases (j.keys x).mp h with z | z
    · exact z
    · rw [hw] at z; cases z
  have ways := j.ways done [] rfl
  refine ⟨fun p L => ⟨fun h => ?_, fun ⟨l, h1, h2⟩ => ?_⟩, fun p l h => ?_, j.nob, j.st0.1⟩
  · induction h with
    | base h => exact ⟨_, j.st0.1, h⟩
    | @step p q _ h1 h2 ih =>
      obtain ⟨l, e, hl⟩ := ih
      obtain ⟨lq, ld, e1, e2, h3⟩ := j.edge p q ⟨hd p (by rw [e]; rfl), h1⟩
      rw [e] at e2; cases e2
      have := mx_le hl h2
      exact ⟨lq, e1, by omega⟩
  · exact ((ways p (hd p (by rw [h1]; rfl)) l h1).1).mono h2
  · obtain ⟨_, r, _, w⟩ := ways p (hd p (by rw [h]; rfl)) l h
    exact ⟨r, w⟩
end
end SH
/-! W0 -/
set_option Elab.async false
set_option linter.all false
set_option maxRecDepth 100000
set_option maxHeartbeats 4000000
/-! Comprehensions whose turns leave all as it is. -/
namespace SH
open PySem PySem.Spec PyProof.Rows L2 LamX
theorem line8 {n : Nat} (h : n ≤ 100000) : n ≤ sizeLine := by rw [sizeLine_eq]; omega
theorem line8' {n : Nat} (h : n ≤ 100000) : n < sizeLine := by rw [sizeLine_eq]; omega
theorem filterMap_take {α β : Type} {f : α → Option β} {l : List α} {i : Nat} {x : α} (h : l[i]? = some x) : (l.take (i + 1)).filterMap f = (l.take i).filterMap f ++ (match f x with | some y => [y] | none => []) := by
  rw [take_next h, List.filterMap_append]
  cases e : f x with
  | none => simp [e]
  | some y => simp [e]
theorem paired_app {α β : Type} {F : α → β → Prop} : ∀ {a c : List α} {b d : List β}, Paired F a b → Paired F c d → Paired F (a ++ c) (b ++ d)
  | _, _, _, _, .nil, k => k
  | _, _, _, _, .cons h t, k => .cons h (paired_app t k)
section
variable {K : Frg} {J : It} {G : Hp → Prop} {Y : Nat → Hp → V → Hp → Prop} {α : Type}
/-- a list of what each item gives, if anything; what it gives is told by R -/
theorem lcR {zs : List α} (w : Walk J zs.length G Y) {g : TG} {tt : L2.TT} {te : TE} {vs : List Nat} {σ : L2.St} {H1 : Hp} {D : Addr} {Qd : Hp → Prop} (hD : H1 D = none) (p : α → Bool) (R : α → V → Hp → Prop) (few : zs.length ≤ 100000) (hG : ∀ H, Up K H1 H → G H)
    (mon : ∀ z y H H', (∀ b o, H b = some o → Lcl o → (∀ xs, o ≠ .lst xs) → H' b = some o) → R z y H → R z y H')
    (hs : ∀ i z x H H' (Pn : Hp → Prop) (Py : VK), zs[i]? = some z → Up K H1 H → Y i H x H' → (∀ H3, Up K H H3 → p z = false → Pn H3) → (∀ y H4, Up K H H4 → p z = true → R z y H4 → Py y H4) →
      g x (wipe σ vs) H' fun σ2 H2 => wipe σ2 vs = wipe σ vs ∧ tt σ2 H2 fun b H3 => if b = true then te σ2 H3 Py else Pn H3)
    (hd : ∀ H ys, Up K H1 H → H D = some (.lst ys) → Paired (fun z y => R z y H) (zs.filter p) ys → Qd H) :
    ∃ W : Nat → Nat → Hp → Prop, (∃ m, W 0 m (upd H1 D (.lst []))) ∧ ∀ i m H, W i m H →
      (J.stop i H ∧ Qd H) ∨ (J.go i H ∧ ∃ Nx : Hp → Prop, (∀ H', Nx H' → ∃ m', m' < m ∧ W (i + 1) m' H') ∧ ∀ x H', J.yld i H x H' → g x (wipe σ vs) H' fun σ2 H2 => wipe σ2 vs = wipe σ vs ∧ tt σ2 H2 fun b H3 =>
        if b = true then te σ2 H3 fun y H4 => ∃ acc, H4 D = some (.lst acc) ∧ acc.length < sizeLine ∧ Nx (upd H4 D (.lst (acc ++ [y]))) else Nx H3) := by
  refine lc_it w (fun i H => Up K H1 H ∧ ∃ ys, H D = some (.lst ys) ∧ Paired (fun z y => R z y H) ((zs.take i).filter p) ys) ⟨.new hD, [], upd_same, .nil⟩ (fun i H _ h => hG H h.1) (fun i x H H' hi h hy => ?_) (fun H h => ?_)
  · obtain ⟨u, ys, e, r⟩ := h
    obtain ⟨z, hz⟩ : ∃ z, zs[i]? = some z := ⟨_, List.getElem?_eq_getElem hi⟩
    have tk : (zs.take (i + 1)).filter p = (zs.take i).filter p ++ (if p z = true then [z] else []) := by
      rw [take_next hz, List.filter_append]
      by_cases c : p z = true
      · rw [if_pos c, List.filter_cons_of_pos c, List.filter_nil]
      · rw [if_neg c, List.filter_cons_of_neg c, List.filter_nil]
    refine hs i z x H H' _ _ hz u hy (fun H3 u3 c => ⟨u.trans u3, ys, u3.at e, ?_⟩) (fun y H4 u4 c ry => ⟨ys, u4.at e, ?_, ?_⟩)
    · rw [tk, c, if_neg Bool.false_ne_true, List.append_nil]
      exact L2.Paired.mapP r fun z y q => mon z y H H3 (fun b o hb l _ => u3.at hb l) q
    · have hl := r.length
      have h2 : ((zs.take i).filter p).length ≤ (zs.take i).length := List.length_filter_le ..
      rw [List.length_take] at h2
      exact line8' (by omega)
    · have st : ∀ b o, H4 b = some o → Lcl o → (∀ xs, o ≠ .lst xs) → upd H4 D (.lst (ys ++ [y])) b = some o := fun b o hb l nl => by
        rw [upd_ne]
        · exact hb
        · rintro rfl
          rw [u4.at e] at hb
          exact nl _ (Option.some.inj hb).symm
      refine ⟨(u.trans u4).wr hD (u4.at e) trivial, ys ++ [y], upd_same, ?_⟩
      rw [tk, c, if_pos rfl]
      exact paired_app (L2.Paired.mapP r fun z y q => mon z y H _ (fun b o hb l nl => st b o (u4.at hb l) l nl) q) (.cons (mon z y H4 _ st ry) .nil)
  · obtain ⟨u, ys, e, r⟩ := h
    rw [List.take_length] at r
    exact hd H ys u e r
theorem paired_fm {ψ : α → Option V} : ∀ {l : List α} {ys : List V}, Paired (fun z y => ψ z = some y) (l.filter fun z => (ψ z).isSome) ys → ys = l.filterMap ψ
  | [], ys, h => by cases h; rfl
  | z :: l, ys, h => by
    rw [List.filter_cons] at h
    cases e : ψ z with
    | none =>
      rw [e] at h
      rw [List.filterMap_cons, e]
      exact paired_fm h
    | some y =>
      rw [e, if_pos (show (some y).isSome = true from rfl)] at h
      cases h with
      | @cons _ b _ bs h1 h2 =>
        rw [e] at h1
        rw [List.filterMap_cons, e, paired_fm h2, Option.some.inj h1]
theorem lcF {zs : List α} (w : Walk J zs.length G Y) {g : TG} {tt : L2.TT} {te : TE} {vs : List Nat} {σ : L2.St} {H1 : Hp} {D : Addr} {Qd : Hp → Prop} (hD : H1 D = none) (ψ : α → Option V) (few : zs.length ≤ 100000) (hG : ∀ H, Up K H1 H → G H)
    (hs : ∀ i z x H H' (Pn : Hp → Prop) (Py : VK), zs[i]? = some z → Up K H1 H → Y i H x H' → (∀ H3, Up K H H3 → ψ z = none → Pn H3) → (∀ y H4, Up K H H4 → ψ z = some y → Py y H4) →
      g x (wipe σ vs) H' fun σ2 H2 => wipe σ2 vs = wipe σ vs ∧ tt σ2 H2 fun b H3 => if b = true then te σ2 H3 Py else Pn H3)
    (hd : ∀ H, Up K H1 H → H D = some (.lst (zs.filterMap ψ)) → Qd H) :
    ∃ W : Nat → Nat → Hp → Prop, (∃ m, W 0 m (upd H1 D (.lst []))) ∧ ∀ i m H, W i m H →
      (J.stop i H ∧ Qd H) ∨ (J.go i H ∧ ∃ Nx : Hp → Prop, (∀ H', Nx H' → ∃ m', m' < m ∧ W (i + 1) m' H') ∧ ∀ x H', J.yld i H x H' → g x (wipe σ vs) H' fun σ2 H2 => wipe σ2 vs = wipe σ vs ∧ tt σ2 H2 fun b H3 =>
        if b = true then te σ2 H3 fun y H4 => ∃ acc, H4 D = some (.lst acc) ∧ acc.length < sizeLine ∧ Nx (upd H4 D (.lst (acc ++ [y]))) else Nx H3) :=
  lcR w hD (fun z => (ψ z).isSome) (fun z y _ => ψ z = some y) few hG (fun _ _ _ _ _ q => q)
    (fun i z x H H' Pn Py hz u hy kn ky => hs i z x H H' Pn Py hz u hy (fun H3 u3 c => kn H3 u3 (by rw [c]; rfl)) fun y H4 u4 c => ky y H4 u4 (by rw [c]; rfl) c)
    fun H ys u e r => hd H u (by rw [← paired_fm r]; exact e)
/-- a dict from names, one entry a turn -/
theorem dcR {ns : List Str} (nd : ns.Nodup) (w : Walk J ns.length G Y) {g : TG} {tk tv : TE} {vs : List Nat} {σ : L2.St} {H1 : Hp} {D : Addr} {Qd : Hp → Prop} (hD : H1 D = none) (R : Str → V → Hp → Prop) (few : ns.length ≤ 100000) (hG : ∀ H, Up K H1 H → G H)
    (mon : ∀ z y H H', (∀ b o, H b = some o → Lcl o → (∀ xs, o ≠ .dK xs) → H' b = some o) → R z y H → R z y H')
    (hs : ∀ i n x H H' (Py : V → V → Hp → Prop), ns[i]? = some n → Up K H1 H → Y i H x H' → (∀ y H4, Up K H H4 → R n y H4 → Py (.str n) y H4) →
      g x (wipe σ vs) H' fun σ2 H2 => wipe σ2 vs = wipe σ vs ∧ tk σ2 H2 fun y H3 => tv σ2 H3 fun z H4 => Py y z H4)
    (hd : ∀ H f, Up K H1 H → H D = some (.dK (mp ns f)) → (∀ n ∈ ns, R n (f n) H) → Qd H) :
    ∃ W : Nat → Nat → Hp → Prop, (∃ m, W 0 m (upd H1 D (.dK []))) ∧ ∀ i m H, W i m H →
      (J.stop i H ∧ Qd H) ∨ (J.go i H ∧ ∃ Nx : Hp → Prop, (∀ H', Nx H' → ∃ m', m' < m ∧ W (i + 1) m' H') ∧ ∀ x H', J.yld i H x H' → g x (wipe σ vs) H' fun σ2 H2 => wipe σ2 vs = wipe σ vs ∧ tYes σ2 H2 fun b H3 =>
        if b = true then tk σ2 H3 fun y H4 => tv σ2 H4 fun z H5 => ∃ kvs k, y = kV k ∧ H5 D = some (.dK kvs) ∧ kvs.length < sizeLine ∧ Nx (upd H5 D (.dK (putK kvs k z))) else Nx H3) := by
  refine ⟨fun i m H => m = ns.length - i ∧ i ≤ ns.length ∧ Up K H1 H ∧ ∃ f, H D = some (.dK (mp (ns.take i) f)) ∧ ∀ n ∈ ns.take i, R n (f n) H, ⟨ns.length, by simp, Nat.zero_le _, .new hD, fun _ => .non, upd_same, fun n h => absurd h (by simp)⟩, ?_⟩
  rintro i m H ⟨rfl, hi, u, f, e, r⟩
  have q := hG H u
  by_cases hlt : i < ns.length
  · refine .inr ⟨w.goes i H hlt q, fun H => i + 1 ≤ ns.length ∧ Up K H1 H ∧ ∃ f, H D = some (.dK (mp (ns.take (i + 1)) f)) ∧ ∀ n ∈ ns.take (i + 1), R n (f n) H, fun H' p' => ⟨ns.length - (i + 1), by omega, rfl, p'.1, p'.2⟩, fun x H' y => ?_⟩
    obtain ⟨n, hn⟩ : ∃ n, ns[i]? = some n := ⟨_, List.getElem?_eq_getElem hlt⟩
    have hnew := nodup_take_new nd hn
    refine hs i n x H H' (fun y z H5 => ∃ kvs k, y = kV k ∧ H5 D = some (.dK kvs) ∧ kvs.length < sizeLine ∧ (i + 1 ≤ ns.length ∧ Up K H1 (upd H5 D (.dK (putK kvs k z))) ∧ ∃ f, (upd H5 D (.dK (putK kvs k z))) D = some (.dK (mp (ns.take (i + 1)) f)) ∧ ∀ n ∈ ns.take (i + 1), R n (f n) (upd H5 D (.dK (putK kvs k z)))))
      hn u (w.yields i H x H' hlt q y) (fun z H4 u4 rz => ⟨_, .inr n, rfl, u4.at e, ?_, hlt, (u.trans u4).wr hD (u4.at e) trivial, fun m => if m = n then z else f m, ?_, ?_⟩)
    · rw [mp_len, List.length_take]; exact line8' (by omega)
    · rw [upd_same, putK_new hnew, mp_take hn, if_pos rfl]
      congr 3
      exact mp_congr fun m hm => (if_neg (fun (z : m = n) => hnew (z ▸ hm))).symm
    · have st : ∀ b o, H4 b = some o → Lcl o → (∀ xs, o ≠ .dK xs) → upd H4 D (.dK (putK (mp (ns.take i) f) (Sum.inr n) z)) b = some o := fun b o hb l nl => by
        rw [upd_ne]
        · exact hb
        · rintro rfl
          rw [u4.at e] at hb
          exact nl _ (Option.some.inj hb).symm
      intro m hm
      rw [take_next hn] at hm
      rcases List.mem_append.mp hm with h | h
      · show R m (if m = n then z else f m) _
        rw [if_neg (fun (z : m = n) => hnew (z ▸ h))]
        exact mon m _ H _ (fun b o hb l nl => st b o (u4.at hb l) l nl) (r m h)
      · obtain rfl := List.mem_singleton.mp h
        show R m (if m = m then z else f m) _
        rw [if_pos rfl]
        exact mon m _ H4 _ st rz
  · have hh : i = ns.length := by omega
    subst hh
    rw [List.take_length] at e r
    exact .inl ⟨w.stops H q, hd H f u e r⟩
/-- the same, the values known ahead -/
theorem dcF {ns : List Str} (nd : ns.Nodup) (w : Walk J ns.length G Y) {g : TG} {tk tv : TE} {vs : List Nat} {σ : L2.St} {H1 : Hp} {D : Addr} {Qd : Hp → Prop} (hD : H1 D = none) (f : Str → V) (few : ns.length ≤ 100000) (hG : ∀ H, Up K H1 H → G H)
    (hs : ∀ i n x H H' (Py : V → V → Hp → Prop), ns[i]? = some n → Up K H1 H → Y i H x H' → (∀ H4, Up K H H4 → Py (.str n) (f n) H4) →
      g x (wipe σ vs) H' fun σ2 H2 => wipe σ2 vs = wipe σ vs ∧ tk σ2 H2 fun y H3 => tv σ2 H3 fun z H4 => Py y z H4)
    (hd : ∀ H, Up K H1 H → H D = some (.dK (mp ns f)) → Qd H) :
    ∃ W : Nat → Nat → Hp → Prop, (∃ m, W 0 m (upd H1 D (.dK []))) ∧ ∀ i m H, W i m H →
      (J.stop i H ∧ Qd H) ∨ (J.go i H ∧ ∃ Nx : Hp → Prop, (∀ H', Nx H' → ∃ m', m' < m ∧ W (i + 1) m' H') ∧ ∀ x H', J.yld i H x H' → g x (wipe σ vs) H' fun σ2 H2 => wipe σ2 vs = wipe σ vs ∧ tYes σ2 H2 fun b H3 =>
        if b = true then tk σ2 H3 fun y H4 => tv σ2 H4 fun z H5 => ∃ kvs k, y = kV k ∧ H5 D = some (.dK kvs) ∧ kvs.length < sizeLine ∧ Nx (upd H5 D (.dK (putK kvs k z))) else Nx H3) :=
  dcR nd w hD (fun n v _ => v = f n) few hG (fun _ _ _ _ _ q => q)
    (fun i n x H H' Py hn u hy k => hs i n x H H' Py hn u hy fun H4 u4 => k _ H4 u4 rfl)
    fun H f' u e r => hd H u (by rw [e, mp_congr r])
end
theorem mergeK_mp {f : Str → V} : ∀ (ns acc : List Str), (acc ++ ns).Nodup → mergeK (mp acc f) (mp ns f) = mp (acc ++ ns) f
  | [], acc, _ => by rw [List.append_nil]; rfl
  | n :: ns, acc, h => by
    have hn : n ∉ acc := fun z => (List.nodup_append.mp h).2.2 n z n List.mem_cons_self rfl
    show mergeK (putK (mp acc f) (Sum.inr n) (f n)) (mp ns f) = _
    rw [putK_new hn, ← mp_snoc, mergeK_mp ns (acc ++ [n]) (by rw [List.append_assoc]; exact h), List.append_assoc]
    rfl
theorem mergeK_nil {f : Str → V} {ns : List Str} (nd : ns.Nodup) : mergeK [] (mp ns f) = mp ns f := mergeK_mp ns [] nd
end SH
/-! W1 -/
set_option Elab.async false
set_option linter.all false
set_option maxRecDepth 100000
set_option maxHeartbeats 4000000
namespace SH
open PySem PySem.Spec PyProof.Rows L2 LamX
section
variable {P : Program} {w : World} {K : Frg} {mg : Str → Option Value} {base : Heap}
/-! ### names -/
theorem low_lower (c : Nat) (h : 97 ≤ c ∧ c ≤ 122) : Unicode.isAlpha c = true ∧ Unicode.isLower c = true ∧ Unicode.isUpper c = false ∧ Unicode.isTitle c = false := by
  have : ∀ d : Fin 26, Unicode.isAlpha (97 + d.1) = true ∧ Unicode.isLower (97 + d.1) = true ∧ Unicode.isUpper (97 + d.1) = false ∧ Unicode.isTitle (97 + d.1) = false := by decide +kernel
  have := this ⟨c - 97, by omega⟩
  rwa [show 97 + (c - 97) = c by omega] at this
theorem good_ascii {n : Str} (h : GoodN n) : Txt.isascii n = true := by
  unfold Txt.isascii
  rw [← Array.all_toList, List.all_eq_true]
  intro c hc
  have := h.2.2 c hc
  exact decide_eq_true (by omega)
theorem good_alpha {n : Str} (h : GoodN n) : Txt.isalpha n = true := by
  unfold Txt.isalpha
  rw [← Array.all_toList]
  have h1 : decide (n.length > 0) = true := decide_eq_true h.1
  rw [h1, Bool.true_and, List.all_eq_true]
  exact fun c hc => (low_lower c (h.2.2 c hc)).1
theorem good_lower {n : Str} (h : GoodN n) : Txt.islower n = true := by
  unfold Txt.islower
  rw [← Array.any_toList, ← Array.any_toList]
  have h1 : n.cps.toList.any Unicode.isLower = true := by
    have hl : 0 < n.cps.toList.length := h.1
    obtain ⟨c, hc⟩ := List.exists_mem_of_length_pos hl
    exact List.any_eq_true.mpr ⟨c, hc, (low_lower c (h.2.2 c hc)).2.1⟩
  rw [h1, Bool.true_and]
  rw [Bool.not_eq_true']
  rw [List.any_eq_false]
  intro c hc
  have := low_lower c (h.2.2 c hc)
  rw [this.2.2.1, this.2.2.2]
  exact Bool.false_ne_true
def spIsName : Sp := fun vs H Q _ => ∃ n : Str, vs = [.str n] ∧ GoodN n ∧ Q (.bl true) H
theorem sc_is_name : FnScope ["value"] ["value"] (defScope s_is_name) := ⟨rfl, rfl, rfl, by decide +kernel, rfl, by decide +kernel, by decide +kernel⟩
theorem c_is_name (t : T K mg) : Cal P w K mg base 1 "is_name" spIsName [] := by
  refine cal_of t.d_is_name sc_is_name (fun _ _ _ _ _ _ us hl => match us, hl with | [_], _ => rfl) (fun vs H Q E h => ?_) (fun f cdv A outer s H vs Q E hr h => ?_)
  · obtain ⟨n, rfl, _⟩ := h
    rfl
  · obtain ⟨n, rfl, g, q⟩ := h
    refine ⟨_, pss_cons (ps_if (PW.pt (pw_or (pt_not (pt_val (cb call_isi t.n_isinstance (pa_cons (pv 0) (pa_cons (tyn (n := "str") t.n_str) pa_nil)))))
        (pw_or1 (pt_not (pt_chain op_le op_le pe_int (cb call_len_str t.n_len (pa_cons (pv 0) pa_nil)) pe_int))))) (pss_one (ps_ret pe_bl)) pss_nil)
      (pss_one (ps_ret (pe_and (pe_bm0 PySem.F.plainAttrs_str PySem.F.slot_str_isascii PySem.F.type_str_isascii mt_isascii (pv 0)) (pe_and (pe_bm0 PySem.F.plainAttrs_str PySem.F.slot_str_isalpha PySem.F.type_str_isalpha mt_isalpha (pv 0)) (pe_one (pe_bm0 PySem.F.plainAttrs_str PySem.F.slot_str_islower PySem.F.type_str_islower mt_islower (pv 0))))))), ?_⟩
    refine ⟨_, rfl, _, _, _, _, true, rfl, .ty _, .base (.str _), kit_ty (by decide +kernel), _, rfl, ?_⟩
    refine ⟨_, rfl, n, rfl, line8 (Nat.le_trans g.2.1 (by decide)), _, _, rfl, rfl, ?_⟩
    refine ⟨_, congrArg V.bl (decide_eq_true (by have := g.1; omega)), ?_⟩
    refine ⟨_, _, rfl, rfl, _, congrArg V.bl (decide_eq_true (by have := g.2.1; omega)), ?_⟩
    refine ⟨_, rfl, rfl, n, rfl, rfl, trivial, true, congrArg V.bl (good_ascii g), ?_⟩
    refine ⟨_, rfl, rfl, n, rfl, rfl, trivial, true, congrArg V.bl (good_alpha g), ?_⟩
    refine ⟨_, rfl, rfl, n, rfl, rfl, trivial, ?_⟩
    rw [good_lower g]
    exact q
end
end SH
/-! B1 -/
set_option Elab.async false
set_option linter.all false
set_option maxRecDepth 100000
set_option maxHeartbeats 4000000
namespace SH
open PySem PySem.Spec PyProof.Rows L2
section
variable {P : Program} {w : World} {K : PySem.W.Frag} {mg : Str → Option Value} {base : Heap}
def MH : Int := 1000000000000
def spIsHeight : Sp := fun vs H Q _ => ∃ i : Int, vs = [.int i] ∧ Q (.bl (decide (-1000000000000 ≤ i) && decide (i ≤ 1000000000000))) H
theorem sc_is_height : FnScope ["value"] ["value"] (defScope s_is_height) := ⟨rfl, rfl, rfl, by decide +kernel, rfl, by decide +kernel, by decide +kernel⟩
theorem c_is_height (t : T K mg) : Cal P w K mg base 1 "is_height" spIsHeight [] := by
  refine cal_of t.d_is_height sc_is_height (fun _ _ _ _ _ _ us hl => match us, hl with | [_], _ => rfl) (fun vs H Q E h => ?_) (fun f cdv A outer s H vs Q E hr h => ?_)
  · obtain ⟨i, rfl, _⟩ := h
    rfl
  · obtain ⟨i, rfl, q⟩ := h
    refine ⟨_, pss_cons (ps_if (PW.pt (pw_or (pt_not (pt_val (cb call_isi t.n_isinstance (pa_cons (pv 0) (pa_cons (tyn (n := "int") t.n_int) pa_nil))))) (pw_or1 (pt_val (cb call_isi t.n_isinstance (pa_cons (pv 0) (pa_cons (tyn (n := "bool") t.n_bool) pa_nil)))))))
      (pss_one (ps_ret pe_bl)) pss_nil) (pss_one (ps_ret (pe_chain op_le op_le (pe_un un_neg (gin t.mH)) (pv 0) (gin t.mH)))), ?_⟩
    refine ⟨_, rfl, _, _, _, _, true, rfl, .ty _, .base (.int _), kit_ty (by decide +kernel), _, rfl, ?_⟩
    refine ⟨_, rfl, _, _, _, _, false, rfl, .ty _, .base (.int _), kit_ty (by decide +kernel), _, rfl, ?_⟩
    refine ⟨_, rfl, _, rfl, _, _, rfl, rfl, _, rfl, ?_⟩
    refine ite2 (fun h => ⟨_, _, rfl, rfl, ?_⟩) (fun h => ?_)
    · simp only [decide_eq_true_eq] at h
      simpa [h] using q
    · simp only [decide_eq_true_eq] at h
      simpa [h] using q
end
end SH
/-! W2 -/
set_option Elab.async false
set_option linter.all false
set_option maxRecDepth 100000
set_option maxHeartbeats 4000000
namespace SH
open PySem PySem.Spec PyProof.Rows L2 LamX
section
variable {X : Cx} {k j : Nat} {C : Addr} {x m : Str} {sp : Sp} {dvs : List V} {p pos apos : Pos} {e o : Expr} {es : List Expr} {ta : TE} {t : TA}
theorem pe_mk (c : Met X.prog X.w X.K X.mg X.base k C "__init__" sp) (mk : PySem.W.makesIn X.K C = true) (kp : PySem.W.keepIn X.K (.ref C) = true) (hm : X.mg x = some (.ref C)) (hr : Room j X.A) (hk : k + 1 ≤ j) (ha : PA X (e :: es) t) (hg : Gl X x := by rfl)
    (hdb : (x == ("__debug__" : Str)) = false := by decide) (he : starEach (e :: es) X.env = (false, eval e X.env) :: starEach es X.env := by rfl) (hpl : (backTo pos (starEach es X.env)).any (·.1) = false := by rfl) :
    PE X (.Call (.Name x p) (e :: es) [] pos) (tMake C sp [] E0 t) := by
  obtain ⟨f, fd, ps, hc, M, F, b⟩ := c.ex
  exact pe_make ⟨mk, M.at_, M.fn, kp⟩ F (hr.mono hk) hg hm b .nil pass0 ha hdb he hpl
end
section
variable {P : Program} {w : World} {K : Frg} {mg : Str → Option Value} {base : Heap}
theorem good_h {i : Int} (h : GoodH i) : (decide (-1000000000000 ≤ i) && decide (i ≤ 1000000000000)) = true := by rw [decide_eq_true h.1, decide_eq_true h.2]; rfl
theorem ty_ins {H : Hp} {a dx C : Addr} {fs : List (Str × V)} (h : H a = some (.ins C dx fs)) (c : Cls K C) (o : OwnIs K C) : TyX K H (.ref a) (.ref C) := .base (.ins h c o.ha o.hn o.htk o.hm)
theorem kit_self {C : Addr} : PySem.W.kitOne K (.ref C) (.ref C) = some true := by
  unfold PySem.W.kitOne; rw [if_pos (beq_self_eq_true _)]
/-! ### bounds -/
def spBInit (K : Frg) : Sp := fun vs H Q _ => ∃ (a dx : Addr) (l h : Int), vs = [.ref a, .int l, .int h] ∧ H a = some (.ins (cB K) dx []) ∧ GoodH l ∧ GoodH h ∧ l ≤ h ∧ Q .non (upd H a (.ins (cB K) dx [("low", .int l), ("high", .int h)]))
theorem sc_BInit : FnScope ["self", "low", "high"] ["self", "low", "high"] (defScope s_Bounds_init) := ⟨rfl, rfl, rfl, by decide +kernel, rfl, by decide +kernel, by decide +kernel⟩
theorem m_BInit (t : T K mg) : Met P w K mg base 2 (cB K) "__init__" (spBInit K) := by
  refine met_of t.clB t.d_Bounds_init sc_BInit (fun _ _ _ _ _ _ us hl => match us, hl with | [_, _, _], _ => rfl) (fun vs H Q E h => ?_) (fun f cdv A outer s H vs Q E hr h => ?_)
  · obtain ⟨a, dx, l, hi, rfl, _⟩ := h
    rfl
  · obtain ⟨a, dx, l, hi, rfl, ha, gl, gh, le, q⟩ := h
    refine ⟨_, pss_cons (ps_if (pt_not (pt_val (pe_c (c_is_height t) hr (by decide) (pa_cons (pv 1) pa_nil)))) (pss_one ps_never) pss_nil)
      (pss_cons (ps_if (pt_not (pt_val (pe_c (c_is_height t) hr (by decide) (pa_cons (pv 2) pa_nil)))) (pss_one ps_never) pss_nil)
      (pss_cons (ps_if (pt_cmpR op_gt (pv 1) (pv 2) (nomark _)) (pss_one ps_never) pss_nil)
      (pss_cons (ps_fld (pv 0) (pv 1) rfl) (pss_one (ps_fld (pv 0) (pv 2) rfl))))), ?_⟩
    refine ⟨_, rfl, l, rfl, true, congrArg V.bl (good_h gl), ?_⟩
    refine ⟨_, rfl, hi, rfl, true, congrArg V.bl (good_h gh), ?_⟩
    refine ⟨_, rfl, _, rfl, _, _, rfl, rfl, false, congrArg V.bl (decide_eq_false (by omega)), ?_⟩
    refine ⟨_, rfl, _, rfl, a, _, dx, _, rfl, ha, t.clB, t.aB_low, by decide, ?_⟩
    refine ⟨_, rfl, _, rfl, a, _, dx, _, rfl, upd_same, t.clB, t.aB_high, by show (1 : Nat) < 1000; decide, ?_⟩
    rw [upd_upd]
    exact q
def spBIn (K : Frg) : Sp := fun vs H Q _ => ∃ (a : Addr) (l h i : Int), vs = [.ref a, .int i] ∧ BdAt K H a l h ∧ Q (.bl (decide (-1000000000000 ≤ i ∧ i ≤ 1000000000000 ∧ l ≤ i ∧ i ≤ h))) H
theorem sc_BIn : FnScope ["self", "value"] ["self", "value"] (defScope s_Bounds_contains) := ⟨rfl, rfl, rfl, by decide +kernel, rfl, by decide +kernel, by decide +kernel⟩
theorem m_BIn (t : T K mg) : Met P w K mg base 2 (cB K) "__contains__" (spBIn K) := by
  refine met_of t.clB t.d_Bounds_contains sc_BIn (fun _ _ _ _ _ _ us hl => match us, hl with | [_, _], _ => rfl) (fun vs H Q E h => ?_) (fun f cdv A outer s H vs Q E hr h => ?_)
  · obtain ⟨a, l, hi, i, rfl, _⟩ := h
    rfl
  · obtain ⟨a, l, hi, i, rfl, ⟨dx, ha⟩, q⟩ := h
    refine ⟨_, pss_one (ps_ret (pe_and (pe_c (c_is_height t) hr (by decide) (pa_cons (pv 1) pa_nil)) (pe_one (pe_chain op_le op_le (pe_fld (pv 0) rfl) (pv 1) (pe_fld (pv 0) rfl))))), ?_⟩
    refine ⟨_, rfl, i, rfl, _, rfl, ?_⟩
    refine ite2 (fun h => ?_) (fun h => ?_)
    · simp only [Bool.and_eq_true, decide_eq_true_eq] at h
      refine ⟨_, rfl, a, _, dx, _, _, rfl, ha, t.clB, t.aB_low, rfl, _, rfl, _, _, rfl, rfl, _, rfl, ?_⟩
      refine ite2 (fun h2 => ?_) (fun h2 => ?_)
      · rw [decide_eq_true_eq] at h2
        refine ⟨_, rfl, a, _, dx, _, _, rfl, ha, t.clB, t.aB_high, rfl, _, _, rfl, rfl, ?_⟩
        show Q (.bl (decide (i ≤ hi))) H
        rw [show decide (i ≤ hi) = decide (-1000000000000 ≤ i ∧ i ≤ 1000000000000 ∧ l ≤ i ∧ i ≤ hi) from decide_eq_decide.mpr ⟨fun z => ⟨h.1, h.2, h2, z⟩, fun z => z.2.2.2⟩]
        exact q
      · rw [decide_eq_true_eq] at h2
        show Q (.bl false) H
        rw [show false = decide (-1000000000000 ≤ i ∧ i ≤ 1000000000000 ∧ l ≤ i ∧ i ≤ hi) from (decide_eq_false fun z => h2 z.2.2.1).symm]
        exact q
    · show Q (.bl false) H
      rw [show false = decide (-1000000000000 ≤ i ∧ i ≤ 1000000000000 ∧ l ≤ i ∧ i ≤ hi) from (decide_eq_false fun z => h (by rw [decide_eq_true z.1, decide_eq_true z.2.1]; rfl)).symm]
      exact q
/-- == of bounds that are alike -/
def REqB (K : Frg) (a b : Addr) (H : Hp) : Prop := ∃ l h, BdAt K H a l h ∧ BdAt K H b l h
theorem sc_BEq : FnScope ["self", "other"] ["self", "other"] (defScope s_Bounds_eq) := ⟨rfl, rfl, rfl, by decide +kernel, rfl, by decide +kernel, by decide +kernel⟩
theorem m_BEq (t : T K mg) : Met P w K mg base 1 (cB K) "__eq__" (spEq (REqB K)) := by
  refine met_of t.clB t.d_Bounds_eq sc_BEq (fun _ _ _ _ _ _ us hl => match us, hl with | [_, _], _ => rfl) (fun vs H Q E h => ?_) (fun f cdv A outer s H vs Q E hr h => ?_)
  · obtain ⟨a, b, rfl, _⟩ := h
    rfl
  · obtain ⟨a, b, rfl, ⟨l, hi, ⟨dx, ha⟩, ⟨dy, hb⟩⟩, q⟩ := h
    refine ⟨_, pss_one (ps_ret (pe_and (cb call_isi t.n_isinstance (pa_cons (pv 1) (pa_cons (gcl t.gB) pa_nil)))
      (pe_and (pe_cmpR op_eq (pe_fld (pv 0) rfl) (pe_fld (pv 1) rfl) (nomark _)) (pe_one (pe_cmpR op_eq (pe_fld (pv 0) rfl) (pe_fld (pv 1) rfl) (nomark _)))))), ?_⟩
    refine ⟨_, rfl, _, _, _, _, true, rfl, .own _, ty_ins hb t.clB t.oiB, kit_self, _, rfl, ?_⟩
    refine ⟨_, rfl, a, _, dx, _, _, rfl, ha, t.clB, t.aB_low, rfl, _, rfl, b, _, dy, _, _, rfl, hb, t.clB, t.aB_low, rfl, rfl, true, congrArg V.bl (decide_eq_true rfl), ?_⟩
    refine ⟨_, rfl, a, _, dx, _, _, rfl, ha, t.clB, t.aB_high, rfl, _, rfl, b, _, dy, _, _, rfl, hb, t.clB, t.aB_high, rfl, rfl, ?_⟩
    rw [decide_eq_true rfl]
    exact q H Ext.rfl'
end
end SH
/-! W3 -/
set_option Elab.async false
set_option linter.all false
set_option maxRecDepth 100000
set_option maxHeartbeats 4000000
namespace SH
open PySem PySem.Spec PyProof.Rows L2 LamX
theorem bk (N : List Str) (st : Stmt) {scope : Scope} {own : List (Str × Nat)} (h : blkC N (defScope st) scope own = true := by decide +kernel) : BlkOk N (defScope st) scope own := blkOk_by h
section
variable {X : Cx} {e : Expr} {es : List Expr} {p pos : Pos} {t : TA}
theorem bIsi (hm : X.mg "isinstance" = none) (ha : PA X (e :: es) t) (hg : Gl X "isinstance" := by rfl) (hst : starEach (e :: es) X.env = (false, eval e X.env) :: starEach es X.env := by rfl) (hpl : (backTo pos (starEach es X.env)).any (·.1) = false := by rfl) :
    PE X (.Call (.Name "isinstance" p) (e :: es) [] pos) (tCB (rIsi X.K) t) := cb call_isi hm ha hg (hst := hst) (hpl := hpl)
end
abbrev BK (α : Type) : Type := Shared → Hp → Addr → List (Str × Addr) → List Addr → α
section
variable {X : Cx}
/-- the block's part, told of the def's own start -/
abbrev bk0 {α : Type} (X : Cx) (t : BK α) : α := t X.s_0 X.H_0 0 [] []
/-- [e for y in iter], y in slot i -/
theorem lc1 (i : Nat) {y : Str} {elt iter : Expr} {scope : Scope} {p pos : Pos} {wi : TI} {te : BK TE} (hc : X.calm = true) (hN : X.N.Nodup) (hi : PI X (.Name y p) iter wi)
    (he : ∀ (s : Shared) (H : Hp) (C : Addr) (cl : List (Str × Addr)) (fp : List Addr), PE (X.blk s H scope (compEnvC scope cl C X.env) fp) elt (te s H C cl fp))
    (ok : BlkOk X.N X.env.scope scope [(y, i)]) (hx : X.N[i]? = some y := by rfl)
    (hl : ∀ cl C, Loc (compEnvC scope cl C X.env).scope y := by intro _ _; first | exact Or.inl rfl | exact Or.inr rfl)
    (hf : ∀ cl C, (scope.names.lookup y == some .cell) = true ∨ (compEnvC scope cl C X.env).scope.names.lookup y = some .local := by intro _ _; first | exact Or.inl rfl | exact Or.inr rfl)
    (hs : ∀ x, foldedSetIterable iter X.env x = pure x := by intro _; rfl) (ee : ∀ s H C cl fp, te s H C cl fp = bk0 X te := by intros; rfl) :
    PE X (.ListComp elt [⟨.Name y p, iter, [], 0⟩] scope pos) (tLc wi (gName i) tYes (bk0 X te) [i]) :=
  pe_lc (own := [(y, i)]) hc hN hi ok (fun _ _ _ _ _ => pg_name hN hx (hl _ _) (hf _ _)) (fun _ _ _ _ _ => pts_nil) (fun s H C cl fp => by rw [← ee s H C cl fp]; exact he s H C cl fp) hs
/-- [e for y in iter if c] -/
theorem lc1t (i : Nat) {y : Str} {elt iter c : Expr} {scope : Scope} {p pos : Pos} {wi : TI} {te : BK TE} {tt : BK L2.TT} (hc : X.calm = true) (hN : X.N.Nodup) (hi : PI X (.Name y p) iter wi)
    (ht : ∀ (s : Shared) (H : Hp) (C : Addr) (cl : List (Str × Addr)) (fp : List Addr), PT (X.blk s H scope (compEnvC scope cl C X.env) fp) c (tt s H C cl fp))
    (he : ∀ (s : Shared) (H : Hp) (C : Addr) (cl : List (Str × Addr)) (fp : List Addr), PE (X.blk s H scope (compEnvC scope cl C X.env) fp) elt (te s H C cl fp))
    (ok : BlkOk X.N X.env.scope scope [(y, i)]) (hx : X.N[i]? = some y := by rfl)
    (hl : ∀ cl C, Loc (compEnvC scope cl C X.env).scope y := by intro _ _; first | exact Or.inl rfl | exact Or.inr rfl)
    (hf : ∀ cl C, (scope.names.lookup y == some .cell) = true ∨ (compEnvC scope cl C X.env).scope.names.lookup y = some .local := by intro _ _; first | exact Or.inl rfl | exact Or.inr rfl)
    (hs : ∀ x, foldedSetIterable iter X.env x = pure x := by intro _; rfl) (ee : ∀ s H C cl fp, te s H C cl fp = bk0 X te := by intros; rfl) (ef : ∀ s H C cl fp, tt s H C cl fp = bk0 X tt := by intros; rfl) :
    PE X (.ListComp elt [⟨.Name y p, iter, [c], 0⟩] scope pos) (tLc wi (gName i) (bk0 X tt) (bk0 X te) [i]) :=
  pe_lc (own := [(y, i)]) hc hN hi ok (fun _ _ _ _ _ => pg_name hN hx (hl _ _) (hf _ _)) (fun s H C cl fp => pts_one (by rw [← ef s H C cl fp]; exact ht s H C cl fp)) (fun s H C cl fp => by rw [← ee s H C cl fp]; exact he s H C cl fp) hs
/-- z = [e for y in iter if c] -/
theorem slc1t (j i : Nat) {y z : Str} {elt iter : Expr} {ifs : List Expr} {scope : Scope} {p pos pz spos : Pos} {wi : TI} {te : BK TE} {tt : BK L2.TT} (hc : X.calm = true) (hN : X.N.Nodup) (hi : PI X (.Name y p) iter wi)
    (ht : ∀ (s : Shared) (H : Hp) (C : Addr) (cl : List (Str × Addr)) (fp : List Addr), PTs (X.blk s H scope (compEnvC scope cl C X.env) fp) ifs (tt s H C cl fp))
    (he : ∀ (s : Shared) (H : Hp) (C : Addr) (cl : List (Str × Addr)) (fp : List Addr), PE (X.blk s H scope (compEnvC scope cl C X.env) fp) elt (te s H C cl fp))
    (ok : BlkOk X.N X.env.scope scope [(y, i)])
    (ha : (scope.names.any fun (n, k) => n == z && (k == .local || k == .cell)) = false := by decide +kernel)
    (hk : X.env.scope.kind = .function := by rfl) (hyl : X.env.scope.names.lookup z = some .local := by rfl) (hln : (pz.line == pos.line) = true := by rfl)
    (hy : X.N[j]? = some z := by rfl) (hx : X.N[i]? = some y := by rfl) (hsl : spos.line = pos.line := by rfl)
    (hl : ∀ cl C, Loc (compEnvC scope cl C X.env).scope y := by intro _ _; first | exact Or.inl rfl | exact Or.inr rfl)
    (hf : ∀ cl C, (scope.names.lookup y == some .cell) = true ∨ (compEnvC scope cl C X.env).scope.names.lookup y = some .local := by intro _ _; first | exact Or.inl rfl | exact Or.inr rfl)
    (hs : ∀ x, foldedSetIterable iter X.env x = pure x := by intro _; rfl) (ee : ∀ s H C cl fp, te s H C cl fp = bk0 X te := by intros; rfl) (ef : ∀ s H C cl fp, tt s H C cl fp = bk0 X tt := by intros; rfl) :
    PS X (.Assign [.Name z pz] (.ListComp elt [⟨.Name y p, iter, ifs, 0⟩] scope pos) spos) (tAsg (tLc wi (gName i) (bk0 X tt) (bk0 X te) [i]) (gName j)) :=
  ps_setLc (own := [(y, i)]) hc hN hy hyl (sw_true hk hyl hln ha) hi ok (fun _ _ _ _ _ => pg_name hN hx (hl _ _) (hf _ _)) (fun s H C cl fp => by rw [← ef s H C cl fp]; exact ht s H C cl fp) (fun s H C cl fp => by rw [← ee s H C cl fp]; exact he s H C cl fp) hs
/-- {k: v for y in iter} -/
theorem dc1 (i : Nat) {y : Str} {kx vx iter : Expr} {scope : Scope} {p pos : Pos} {wi : TI} {tk tv : BK TE} (hc : X.calm = true) (hN : X.N.Nodup) (hi : PI X (.Name y p) iter wi)
    (hk : ∀ (s : Shared) (H : Hp) (C : Addr) (cl : List (Str × Addr)) (fp : List Addr), PE (X.blk s H scope (compEnvC scope cl C X.env) fp) kx (tk s H C cl fp))
    (he : ∀ (s : Shared) (H : Hp) (C : Addr) (cl : List (Str × Addr)) (fp : List Addr), PE (X.blk s H scope (compEnvC scope cl C X.env) fp) vx (tv s H C cl fp))
    (ok : BlkOk X.N X.env.scope scope [(y, i)]) (hx : X.N[i]? = some y := by rfl)
    (hl : ∀ cl C, Loc (compEnvC scope cl C X.env).scope y := by intro _ _; first | exact Or.inl rfl | exact Or.inr rfl)
    (hf : ∀ cl C, (scope.names.lookup y == some .cell) = true ∨ (compEnvC scope cl C X.env).scope.names.lookup y = some .local := by intro _ _; first | exact Or.inl rfl | exact Or.inr rfl)
    (hs : ∀ x, foldedSetIterable iter X.env x = pure x := by intro _; rfl) (ek : ∀ s H C cl fp, tk s H C cl fp = bk0 X tk := by intros; rfl) (ee : ∀ s H C cl fp, tv s H C cl fp = bk0 X tv := by intros; rfl) :
    PE X (.DictComp kx vx [⟨.Name y p, iter, [], 0⟩] scope pos) (tDc wi (gName i) tYes (bk0 X tk) (bk0 X tv) [i]) :=
  pe_dc (own := [(y, i)]) hc hN hi ok (fun _ _ _ _ _ => pg_name hN hx (hl _ _) (hf _ _)) (fun _ _ _ _ _ => pts_nil) (fun s H C cl fp => by rw [← ek s H C cl fp]; exact hk s H C cl fp) (fun s H C cl fp => by rw [← ee s H C cl fp]; exact he s H C cl fp) hs
end
section
variable {X : Cx}
theorem sw_trueD {kx vx : Expr} {gs : List Comprehension} {scope : Scope} {pos py : Pos} {y : Str} {l : Nat} {env : Env} (hk : env.scope.kind = .function) (hy : env.scope.names.lookup y = some .local) (hl : (py.line == pos.line) = true)
    (ha : (scope.names.any fun (n, k) => n == y && (k == .local || k == .cell)) = false) : swapsWith (.DictComp kx vx gs scope pos) (some (.Name y py)) l env = pure true := by
  have ky : env.kindOf y = some .local := hy
  have hb : env.blockKind = .function := by unfold Env.blockKind; rw [hk]; rfl
  unfold swapsWith
  simp only [hb, ky, ha, Expr.pos, hl]
  rfl
theorem ps_setDc {i : Nat} {y : Str} {py : Pos} {kx vx tg iter : Expr} {ifs : List Expr} {scope : Scope} {own : List (Str × Nat)} {pos spos : Pos} {wi : TI} {g : TG} {tt : L2.TT} {tk tv : TE} (hc : X.calm = true) (hN : X.N.Nodup) (hy : X.N[i]? = some y) (hyl : X.env.scope.names.lookup y = some .local)
    (hsw : swapsWith (.DictComp kx vx [⟨tg, iter, ifs, 0⟩] scope pos) (some (.Name y py)) spos.line X.env = pure true) (hi : PI X tg iter wi) (ok : BlkOk X.N X.env.scope scope own)
    (hg : ∀ (s : Shared) (H : Hp) (C : Addr) (cl : List (Str × Addr)) (fp : List Addr), PG (X.blk s H scope (compEnvC scope cl C X.env) fp) tg g) (ht : ∀ (s : Shared) (H : Hp) (C : Addr) (cl : List (Str × Addr)) (fp : List Addr), PTs (X.blk s H scope (compEnvC scope cl C X.env) fp) ifs tt)
    (hk : ∀ (s : Shared) (H : Hp) (C : Addr) (cl : List (Str × Addr)) (fp : List Addr), PE (X.blk s H scope (compEnvC scope cl C X.env) fp) kx tk)
    (he : ∀ (s : Shared) (H : Hp) (C : Addr) (cl : List (Str × Addr)) (fp : List Addr), PE (X.blk s H scope (compEnvC scope cl C X.env) fp) vx tv) (hs : ∀ x, foldedSetIterable iter X.env x = pure x := by intro _; rfl) :
    PS X (.Assign [.Name y py] (.DictComp kx vx [⟨tg, iter, ifs, 0⟩] scope pos) spos) (tAsg (tDc wi g tt tk tv (own.map (·.2))) (gName i)) := by
  refine ⟨fun pins s σ H D I h => ?_⟩
  rw [exec_Assign_Name_used _ _ _ _ hsw]
  refine wpAny_bind (wpAny_standAt (wpAny_bind ?_))
  show wpAny _ X.A (do let _ ← comprehension (.DictComp kx vx [⟨tg, iter, ifs, 0⟩] scope pos) scope X.env (firstIterPos [⟨tg, iter, ifs, 0⟩] pos) newDict false (eval iter X.env) (some (assign (.Name y py) X.env))) _ _ s
  have h : tDc wi g tt tk tv (own.map (·.2)) σ H (fun x H1 => gName i x σ H1 D.nx) := h
  refine wpAny_bind (thn (dc_core (Qf := fun _ s' => L2.SP X pins D .next s') hc hN I hi ok hg ht hk he hs h fun L C s' m H' I' q hn f => ?_) fun _ s' hq => wpAny_pure (wpAny_pure hq))
  show wpAny _ _ (assign (.Name y py) X.env (.ref L)) _ _ _
  refine wpAny_assign_Name (store_ok2 (v := V.ref L) I' hN hy (.inl hyl) rfl (fun s2 I2 ⟨a, sb, ha⟩ => ?_) (.inr hyl))
  obtain ⟨f0, f1, f2, f3, f4, f5⟩ := f
  have haC : C ≠ a := by
    rcases ha with z | z
    · rw [z]; exact f1
    · exact fun e => f4 y a z e.symm
  refine ⟨m, hn.sameBut sb haC, fun h3 sb3 => ?_⟩
  exact ⟨_, H', I2.turned (t' := s2.toks) (fun b o hb e => (sb3.2 b hb).trans e) f0 f1 f3 f4 f5, q⟩
/-- z = {k: v for y in iter} -/
theorem sdc1 (j i : Nat) {y z : Str} {kx vx iter : Expr} {scope : Scope} {p pos pz spos : Pos} {wi : TI} {tk tv : BK TE} (hc : X.calm = true) (hN : X.N.Nodup) (hi : PI X (.Name y p) iter wi)
    (hk : ∀ (s : Shared) (H : Hp) (C : Addr) (cl : List (Str × Addr)) (fp : List Addr), PE (X.blk s H scope (compEnvC scope cl C X.env) fp) kx (tk s H C cl fp))
    (he : ∀ (s : Shared) (H : Hp) (C : Addr) (cl : List (Str × Addr)) (fp : List Addr), PE (X.blk s H scope (compEnvC scope cl C X.env) fp) vx (tv s H C cl fp))
    (ok : BlkOk X.N X.env.scope scope [(y, i)])
    (ha : (scope.names.any fun (n, k) => n == z && (k == .local || k == .cell)) = false := by decide +kernel)
    (hkk : X.env.scope.kind = .function := by rfl) (hyl : X.env.scope.names.lookup z = some .local := by rfl) (hln : (pz.line == pos.line) = true := by rfl)
    (hy : X.N[j]? = some z := by rfl) (hx : X.N[i]? = some y := by rfl)
    (hl : ∀ cl C, Loc (compEnvC scope cl C X.env).scope y := by intro _ _; first | exact Or.inl rfl | exact Or.inr rfl)
    (hf : ∀ cl C, (scope.names.lookup y == some .cell) = true ∨ (compEnvC scope cl C X.env).scope.names.lookup y = some .local := by intro _ _; first | exact Or.inl rfl | exact Or.inr rfl)
    (hs : ∀ x, foldedSetIterable iter X.env x = pure x := by intro _; rfl) (ek : ∀ s H C cl fp, tk s H C cl fp = bk0 X tk := by intros; rfl) (ee : ∀ s H C cl fp, tv s H C cl fp = bk0 X tv := by intros; rfl) :
    PS X (.Assign [.Name z pz] (.DictComp kx vx [⟨.Name y p, iter, [], 0⟩] scope pos) spos) (tAsg (tDc wi (gName i) tYes (bk0 X tk) (bk0 X tv) [i]) (gName j)) :=
  ps_setDc (own := [(y, i)]) hc hN hy hyl (sw_trueD hkk hyl hln ha) hi ok (fun _ _ _ _ _ => pg_name hN hx (hl _ _) (hf _ _)) (fun _ _ _ _ _ => pts_nil) (fun s H C cl fp => by rw [← ek s H C cl fp]; exact hk s H C cl fp) (fun s H C cl fp => by rw [← ee s H C cl fp]; exact he s H C cl fp) hs
end
section
variable {K : Frg} {d a : Addr} {o : Obj} {ns : List Str} {f : Str → V} {xs : List V}
theorem mp_get {i : Nat} {k : Key} {v : V} (h : (mp ns f)[i]? = some (k, v)) : ∃ n, ns[i]? = some n ∧ k = .inr n ∧ v = f n := by
  unfold mp at h
  rw [List.getElem?_map] at h
  obtain ⟨n, h1, h2⟩ := Option.map_eq_some_iff.mp h
  cases h2
  exact ⟨n, h1, rfl, rfl⟩
theorem walk_mp : Walk (Itk d o (mp ns f)) ns.length (fun H => H d = some (.frz o (.dK (mp ns f)))) (fun i H x H' => H' = H ∧ ∃ n, ns[i]? = some n ∧ x = .str n) := by
  rw [← mp_len (ns := ns) (f := f)]
  exact walk_keys.mono (fun _ h => h) fun i H x H' _ _ y => by
    obtain ⟨e, k, v, h1, h2⟩ := y
    obtain ⟨n, h3, h4, h5⟩ := mp_get h1
    exact ⟨e, n, h3, by rw [h2, h4]; rfl⟩
/-- a list of names -/
theorem walk_names : Walk (Itl K a) ns.length (fun H => SqL K H a (ns.map V.str)) (fun i H x H' => H' = H ∧ ∃ n, ns[i]? = some n ∧ x = .str n) := by
  have := walk_list (K := K) (a := a) (xs := ns.map V.str)
  rw [List.length_map] at this
  exact this.mono (fun _ h => h) fun i H x H' _ _ y => by
    obtain ⟨e, h⟩ := y
    rw [List.getElem?_map] at h
    obtain ⟨n, h1, h2⟩ := Option.map_eq_some_iff.mp h
    exact ⟨e, n, h1, h2.symm⟩
theorem dget_mp {H : Hp} {n : Str} (h : Rd H d (.dK (mp ns f))) (hn : n ∈ ns) : DGet H d (.str n) (some (f n)) := .inl ⟨_, .inr n, h, rfl, (valV_in hn).symm⟩
theorem din_mp {H : Hp} {n : Str} (h : Rd H d (.dK (mp ns f))) : DGet H d (.str n) (if n ∈ ns then some (f n) else none) := .inl ⟨_, .inr n, h, rfl, (valV_mp n ns).symm⟩
theorem dput_mp {H : Hp} {n : Str} {v : V} (h : H d = some (.dK (mp ns f))) (hn : n ∈ ns) (few : ns.length ≤ 100000) : DPut H d (.str n) v (upd H d (.dK (mp ns fun m => if m = n then v else f m))) := by
  have := DPut.k (k := .inr n) (v := v) h (by rw [mp_len]; exact line8' few)
  rw [putK_old hn] at this
  exact this
theorem rd_frz {H : Hp} {u : HO} (h : H d = some (.frz o u)) : Rd H d u := .inr ⟨o, h⟩
end
/-- places: bounds by names -/
def PlAt (K : Frg) (H : Hp) (d : Addr) (ns : List Str) (lo hi : Str → Int) : Prop := ∃ bd : Str → Addr, H d = some (.dK (mp ns fun n => .ref (bd n))) ∧ ∀ n ∈ ns, BdAt K H (bd n) (lo n) (hi n)
theorem PlAt.up {K : Frg} {H H1 : Hp} {d : Addr} {ns : List Str} {lo hi : Str → Int} (x : PlAt K H d ns lo hi) (u : Up K H H1) : PlAt K H1 d ns lo hi := let ⟨bd, e, r⟩ := x; ⟨bd, u.at e, fun n hn => (r n hn).up u⟩
section
variable {P : Program} {w : World} {K : Frg} {mg : Str → Option Value} {base : Heap}
def spArePl (K : Frg) : Sp := fun vs H Q _ => ∃ (d : Addr) (ns : List Str) (lo hi : Str → Int), vs = [.ref d] ∧ PlAt K H d ns lo hi ∧ (∀ n ∈ ns, GoodN n) ∧ ns.length ≤ 8 ∧ ∀ H', Up K H H' → Q (.bl true) H'
theorem sc_are_places : FnScope ["places", "name"] ["places"] (defScope s_are_places) := ⟨rfl, rfl, rfl, by decide +kernel, rfl, by decide +kernel, by decide +kernel⟩
theorem c_are_places (t : T K mg) : Cal P w K mg base 2 "are_places" (spArePl K) [] := by
  refine cal_of t.d_are_places sc_are_places (fun _ _ _ _ _ _ us hl => match us, hl with | [_], _ => rfl) (fun vs H Q E h => ?_) (fun f cdv A outer s H vs Q E hr h => ?_)
  · obtain ⟨n, _, _, _, rfl, _⟩ := h
    rfl
  · obtain ⟨d, ns, lo, hi, rfl, ⟨bd, hd, hb⟩, g, few, q⟩ := h
    have hu := hu_of hr
    have nd := sc_are_places.nd
    refine ⟨_, pss_cons (ps_if (pt_not (pt_val (cb call_isi t.n_isinstance (pa_cons (pv 0) (pa_cons (tyn (n := "dict") t.n_dict) pa_nil))))) (pss_one (ps_ret pe_bl)) pss_nil)
      (pss_one (ps_ret (cb (cr_all rfl) t.n_all (pa_cons (pe_lock (lc1 1 rfl nd (pi_keys (pv 0)) (fun _ _ _ _ _ => pe_and (pe_c (c_is_name t) hr (by decide) (pa_cons (pv 1) pa_nil))
        (pe_one (bIsi t.n_isinstance (pa_cons (pe_dget hu (pv 0) (pv 1) (fun _ _ => rfl)) (pa_cons (gcl t.gB) pa_nil))))) (bk ["places", "name"] s_are_places))) pa_nil)))), ?_⟩
    refine ⟨_, rfl, _, _, _, _, true, rfl, .ty _, .base (.dK hd), kit_ty (by decide +kernel), _, rfl, ?_⟩
    refine ⟨d, _, hd, trivial, fun od => ⟨_, rfl, d, od, rfl, .inl ⟨_, upd_same, fun D hD => lcF (K := K) walk_mp hD (fun _ => some (.bl true)) (by omega) (fun H u => u.at upd_same)
      (fun i n x H2 H' Pn Py hn u hy kn ky => ?_) (fun H2 u e => ?_)⟩⟩⟩
    · obtain ⟨rfl, n', hn', rfl⟩ := hy
      obtain rfl : n = n' := Option.some.inj (hn.symm.trans hn')
      have hm : n ∈ ns := List.mem_of_getElem? hn
      have hd2 : H' d = some (.frz od (.dK (mp ns fun n => .ref (bd n)))) := u.at upd_same
      obtain ⟨dx, hb2⟩ := hb n hm
      have hne : bd n ≠ d := ne_of hb2 hd (fun z => nomatch z)
      have hb3 : H' (bd n) = some _ := u.at ((upd_ne hne).trans hb2)
      refine ⟨rfl, ⟨_, rfl, n, rfl, g n hm, true, rfl, ?_⟩⟩
      refine ⟨_, rfl, _, rfl, d, _, rfl, dget_mp (rd_frz hd2) hm, _, _, _, _, true, rfl, .own _, ty_ins hb3 t.clB t.oiB, kit_self, ?_⟩
      exact ky _ _ Up.rfl' rfl
    · refine ⟨u.at upd_same, D, ns.map fun _ => true, rfl, SqL.of ?_, ?_⟩
      · have hdD : D ≠ d := fun z => by rw [z, upd_same] at hD; cases hD
        rw [upd_ne hdD, e, List.filterMap_eq_map', List.map_map]
        rfl
      · rw [show (ns.map fun _ => true).all id = true by simp]
        exact q _ (Up.lock hd trivial u)
end
end SH
/-! W4 -/
set_option Elab.async false
set_option linter.all false
set_option maxRecDepth 100000
set_option maxHeartbeats 4000000
namespace SH
open PySem PySem.Spec PyProof.Rows L2 LamX
section
variable {P : Program} {w : World} {K : Frg} {mg : Str → Option Value} {base : Heap}
theorem sc_of {N ps : List Str} {st : Stmt} (h1 : (defScope st).kind = .function := by rfl) (h2 : (defScope st).isCoroutine = false := by rfl) (h3 : (defScope st).isGenerator = false := by rfl) (h4 : N.Nodup := by decide +kernel) (h5 : N.take ps.length = ps := by rfl)
    (h6 : ∀ x ∈ ps, (defScope st).names.lookup x = some .local ∨ (defScope st).names.lookup x = some .cell := by decide +kernel) (h7 : ∀ y ∈ (defScope st).names, y.2 ≠ .free := by decide +kernel) : FnScope N ps (defScope st) := ⟨h1, h2, h3, h4, h5, h6, h7⟩
def spIsKey (K : Frg) : Sp := fun vs H Q _ => ∃ (n : Str) (d : Addr) (ns : List Str) (f : Str → V), vs = [.str n, .ref d] ∧ H d = some (.dK (mp ns f)) ∧ n ∈ ns ∧ Q (.bl true) H
theorem sc_is_key : FnScope ["value", "held"] ["value", "held"] (defScope s_is_key) := sc_of
theorem c_is_key (t : T K mg) : Cal P w K mg base 1 "is_key" (spIsKey K) [] := by
  refine cal_of t.d_is_key sc_is_key (fun _ _ _ _ _ _ us hl => match us, hl with | [_, _], _ => rfl) (fun vs H Q E h => ?_) (fun f cdv A outer s H vs Q E hr h => ?_)
  · obtain ⟨n, _, _, _, rfl, _⟩ := h
    rfl
  · obtain ⟨n, d, ns, f, rfl, hd, hn, q⟩ := h
    have hu := hu_of hr
    refine ⟨_, pss_one (ps_ret (pe_and (bIsi t.n_isinstance (pa_cons (pv 0) (pa_cons (tyn (n := "str") t.n_str) pa_nil))) (pe_one (pe_cmp (pc_din hu (pv 0) (pv 1)))))), ?_⟩
    refine ⟨_, rfl, _, _, _, _, true, rfl, .ty _, .base (.str _), kit_ty (by decide +kernel), _, rfl, ?_⟩
    refine ⟨_, rfl, _, rfl, d, _, rfl, din_mp (.inl hd), ?_⟩
    rw [if_pos hn]
    exact q
theorem kit_lt_t {K : Frg} : PySem.W.kitAny K (.type "tuple") [.type "list", .type "tuple"] = some true :=
  kitAny_cons (b := false) (kit_ty (by decide +kernel)) (fun _ => kitAny_cons (b := true) (kit_ty (by decide +kernel)) (fun z => nomatch z) fun _ => rfl) (fun z => nomatch z)
theorem kit_lt_l {K : Frg} : PySem.W.kitAny K (.type "list") [.type "list", .type "tuple"] = some true :=
  kitAny_cons (b := true) (kit_ty (by decide +kernel)) (fun z => nomatch z) fun _ => rfl
theorem cls_lt : Paired ClsV [.ty "list", .ty "tuple"] [.type "list", .type "tuple"] := .cons (.ty _) (.cons (.ty _) .nil)
theorem line2 : (2 : Nat) ≤ sizeLine := line8 (by decide)
theorem bIsiT {X : Cx} {e : Expr} {es : List Expr} {p pos : Pos} {t : TA} (hm : X.mg "isinstance" = none) (ha : PA X (e :: es) t) (hg : Gl X "isinstance" := by rfl) (hst : starEach (e :: es) X.env = (false, eval e X.env) :: starEach es X.env := by rfl) (hpl : (backTo pos (starEach es X.env)).any (·.1) = false := by rfl) :
    PE X (.Call (.Name "isinstance" p) (e :: es) [] pos) (tCB (rIsiT X.K) t) := cb call_isiT hm ha hg (hst := hst) (hpl := hpl)
def spIsPair (K : Frg) : Sp := fun vs H Q _ => ∃ (p d : Addr) (x y : Str) (ns : List Str) (f : Str → V), vs = [.ref p, .ref d] ∧ H p = some (.tup [.str x, .str y]) ∧ H d = some (.dK (mp ns f)) ∧ x ∈ ns ∧ y ∈ ns ∧ x ≠ y ∧ ∀ H', (∀ b o, H b = some o → H' b = some o) → Q (.bl true) H'
theorem sc_is_pair : FnScope ["item", "held", "one", "other"] ["item", "held"] (defScope s_is_pair) := sc_of
theorem c_is_pair (t : T K mg) : Cal P w K mg base 2 "is_pair" (spIsPair K) [] := by
  refine cal_of t.d_is_pair sc_is_pair (fun _ _ _ _ _ _ us hl => match us, hl with | [_, _], _ => rfl) (fun vs H Q E h => ?_) (fun f cdv A outer s H vs Q E hr h => ?_)
  · obtain ⟨n, _, _, _, _, _, rfl, _⟩ := h
    rfl
  · obtain ⟨p, d, x, y, ns, f, rfl, hp, hd, hx, hy, hne, q⟩ := h
    have nd := sc_is_pair.nd
    refine ⟨_, pss_cons (ps_if (PW.pt (pw_or (pt_not (pt_val (bIsiT t.n_isinstance (pa_cons (pv 0) (pa_cons (pe_tup (pa_cons (tyn (n := "list") t.n_list) (pa_cons (tyn (n := "tuple") t.n_tuple) pa_nil))) pa_nil)))))
        (pw_or1 (pt_cmpR op_ne (cb call_len_seq t.n_len (pa_cons (pv 0) pa_nil)) pe_int (nomark _))))) (pss_one (ps_ret pe_bl)) pss_nil)
      (pss_cons (ps_asg (pv 0) (pg_tup rfl (pgs_cons (gv 2 nd) (pgs_cons (gv 3 nd) pgs_nil))))
      (pss_one (ps_ret (pe_and (pe_c (c_is_key t) hr (by decide) (pa_cons (pv 2) (pa_cons (pv 1) pa_nil))) (pe_and (pe_c (c_is_key t) hr (by decide) (pa_cons (pv 3) (pa_cons (pv 1) pa_nil))) (pe_one (pe_cmpR op_ne (pv 2) (pv 3) (nomark _)))))))), ?_⟩
    refine ⟨_, rfl, line2, fun tp htp => ?_⟩
    have ne1 : p ≠ tp := ne_of_none hp htp
    have ne2 : d ≠ tp := ne_of_none hd htp
    have hp' : (upd H tp (.tup [.ty "list", .ty "tuple"])) p = some (.tup [.str x, .str y]) := (upd_ne ne1).trans hp
    have hd' : (upd H tp (.tup [.ty "list", .ty "tuple"])) d = some (.dK (mp ns f)) := (upd_ne ne2).trans hd
    refine ⟨_, tp, _, _, _, true, rfl, upd_same, cls_lt, .base (.tup hp'), kit_lt_t, _, rfl, ?_⟩
    refine ⟨_, rfl, p, _, rfl, .inr (SqT.of hp'), rfl, false, rfl, ?_⟩
    refine ⟨_, rfl, p, _, rfl, SqT.of hp', rfl, _, _, rfl, _, _, rfl, rfl, ?_⟩
    refine ⟨_, rfl, _, rfl, x, d, ns, f, rfl, hd', hx, true, rfl, ?_⟩
    refine ⟨_, rfl, _, rfl, y, d, ns, f, rfl, hd', hy, true, rfl, ?_⟩
    refine ⟨_, rfl, _, rfl, rfl, ?_⟩
    rw [decide_eq_false (fun z => hne (V.str.inj z))]
    exact q _ (ext_new htp)
end
end SH
/-! W5 -/
set_option Elab.async false
set_option linter.all false
set_option maxRecDepth 100000
set_option maxHeartbeats 4000000
namespace SH
open PySem PySem.Spec PyProof.Rows L2 LamX
/-- min, max of a pair -/
def mm (p : Pr) : Pr := (if slt p.2 p.1 then p.2 else p.1, if slt p.1 p.2 then p.2 else p.1)
section
variable {X : Cx}
/-- {e for y in iter}, pairs -/
theorem sc1 (i : Nat) {y : Str} {elt iter : Expr} {scope : Scope} {p pos : Pos} {wi : TI} {te : BK TE} (hc : X.calm = true) (hu : X.A.units + 8 < cLine) (hN : X.N.Nodup) (hi : PI X (.Name y p) iter wi)
    (he : ∀ (s : Shared) (H : Hp) (C : Addr) (cl : List (Str × Addr)) (fp : List Addr), PE (X.blk s H scope (compEnvC scope cl C X.env) fp) elt (te s H C cl fp))
    (ok : BlkOk X.N X.env.scope scope [(y, i)]) (hx : X.N[i]? = some y := by rfl)
    (hl : ∀ cl C, Loc (compEnvC scope cl C X.env).scope y := by intro _ _; first | exact Or.inl rfl | exact Or.inr rfl)
    (hf : ∀ cl C, (scope.names.lookup y == some .cell) = true ∨ (compEnvC scope cl C X.env).scope.names.lookup y = some .local := by intro _ _; first | exact Or.inl rfl | exact Or.inr rfl)
    (hs : ∀ x, foldedSetIterable iter X.env x = pure x := by intro _; rfl) (ee : ∀ s H C cl fp, te s H C cl fp = bk0 X te := by intros; rfl) :
    PE X (.SetComp elt [⟨.Name y p, iter, [], 0⟩] scope pos) (tScT X wi (gName i) tYes (bk0 X te) [i]) :=
  pe_scT (own := [(y, i)]) hc hu hN hi ok (fun _ _ _ _ _ => pg_name hN hx (hl _ _) (hf _ _)) (fun _ _ _ _ _ => pts_nil) (fun s H C cl fp => by rw [← ee s H C cl fp]; exact he s H C cl fp) hs
theorem sc_it {J : It} {n : Nat} {G : Hp → Prop} {Y : Nat → Hp → V → Hp → Prop} (w : Walk J n G Y) {g : TG} {tt : L2.TT} {te : TE} {vs : List Nat} {σ : L2.St} {H1 : Hp} {D : Addr} {Qd : Hp → Prop} (Pv : Nat → Hp → Prop) (h0 : Pv 0 (upd H1 D (TSS.SetTO X.prog X.w D []))) (hG : ∀ i H, i ≤ n → Pv i H → G H)
    (hs : ∀ i x H H', i < n → Pv i H → Y i H x H' → g x (wipe σ vs) H' fun σ2 H2 => wipe σ2 vs = wipe σ vs ∧ tt σ2 H2 fun b H3 =>
      if b = true then te σ2 H3 fun y H4 => ∃ (tp : Addr) (ks : List Str) (L : List (Addr × List Str)), y = .ref tp ∧ H4 D = some (TSS.SetTO X.prog X.w D L) ∧ SqT X.K H4 tp (ks.map V.str) ∧ (∀ p ∈ L, SqT X.K H4 p.1 (p.2.map V.str)) ∧ L.length + 1 < 64 ∧
        ∀ L', (ks ∈ L.map (·.2) → L' = L) → (ks ∉ L.map (·.2) → L'.Perm ((tp, ks) :: L)) → Pv (i + 1) (upd H4 D (TSS.SetTO X.prog X.w D L')) else Pv (i + 1) H3) (hd : ∀ H, Pv n H → Qd H) :
    ∃ W : Nat → Nat → Hp → Prop, (∃ m, W 0 m (upd H1 D (TSS.SetTO X.prog X.w D []))) ∧ ∀ i m H, W i m H →
      (J.stop i H ∧ Qd H) ∨ (J.go i H ∧ ∃ Nx : Hp → Prop, (∀ H', Nx H' → ∃ m', m' < m ∧ W (i + 1) m' H') ∧ ∀ x H', J.yld i H x H' → g x (wipe σ vs) H' fun σ2 H2 => wipe σ2 vs = wipe σ vs ∧ tt σ2 H2 fun b H3 =>
        if b = true then te σ2 H3 fun y H4 => ∃ (tp : Addr) (ks : List Str) (L : List (Addr × List Str)), y = .ref tp ∧ H4 D = some (TSS.SetTO X.prog X.w D L) ∧ SqT X.K H4 tp (ks.map V.str) ∧ (∀ p ∈ L, SqT X.K H4 p.1 (p.2.map V.str)) ∧ L.length + 1 < 64 ∧
          ∀ L', (ks ∈ L.map (·.2) → L' = L) → (ks ∉ L.map (·.2) → L'.Perm ((tp, ks) :: L)) → Nx (upd H4 D (TSS.SetTO X.prog X.w D L')) else Nx H3) := by
  refine ⟨fun i m H => m = n - i ∧ i ≤ n ∧ Pv i H, ⟨n, by simp, Nat.zero_le _, h0⟩, ?_⟩
  rintro i m H ⟨rfl, hi, p⟩
  have q := hG i H hi p
  by_cases hlt : i < n
  · exact .inr ⟨w.goes i H hlt q, Pv (i + 1), fun H' p' => ⟨n - (i + 1), by omega, rfl, hlt, p'⟩, fun x H' y => hs i x H H' hlt p (w.yields i H x H' hlt q y)⟩
  · have e : i = n := by omega
    subst e
    exact .inl ⟨w.stops H q, hd H p⟩
end
/-- all stays -/
abbrev St1 (H H' : Hp) : Prop := ∀ b o, H b = some o → H' b = some o
theorem St1.rd {H H' : Hp} {D : Addr} {o : HO} (x : St1 H H') (n : H D = none) : St1 H (upd H' D o) := fun b v e => by rw [upd_ne (ne_of_none e n)]; exact x b v e
theorem St1.tr {H H' H2 : Hp} (x : St1 H H') (y : St1 H' H2) : St1 H H2 := fun b v e => y b v (x b v e)
section
variable {P : Program} {w : World} {K : Frg} {mg : Str → Option Value} {base : Heap}
def spPT (K : Frg) : Sp := fun vs H Q _ => ∃ (l d : Addr) (ts : List Pr) (ns : List Str) (f : Str → V), vs = [.ref l, .ref d] ∧ PairsAt H l ts ∧ H d = some (.dK (mp ns f)) ∧ (∀ p ∈ ts, p.1 ∈ ns ∧ p.2 ∈ ns ∧ p.1 ≠ p.2) ∧ ts.length ≤ 40 ∧
  ∀ H' a ps, Up K H H' → PairsAt H' a ps → ps.Pairwise ppl → (∀ p, p ∈ ps ↔ p ∈ ts.map mm) → Q (.ref a) H'
theorem sc_pairs_told : FnScope ["ties", "held", "item"] ["ties", "held"] (defScope s_pairs_told) := sc_of
theorem c_pairs_told (t : T K mg) : Cal P w K mg base 3 "pairs_told" (spPT K) [] := by
  refine cal_of t.d_pairs_told sc_pairs_told (fun _ _ _ _ _ _ us hl => match us, hl with | [_, _], _ => rfl) (fun vs H Q E h => ?_) (fun f cdv A outer s H vs Q E hr h => ?_)
  · obtain ⟨l, _, _, _, _, rfl, _⟩ := h
    rfl
  · obtain ⟨l, d, ts, ns, f, rfl, ⟨L, hl, hL, hts⟩, hd, hin, few, q⟩ := h
    have nd := sc_pairs_told.nd
    have h64 := hr.units
    have hu8 := Nat.lt_of_le_of_lt (Nat.add_le_add_left (by decide : 8 ≤ 64) _) h64
    refine ⟨_, pss_cons (ps_if (pt_not (pt_val (bIsiT t.n_isinstance (pa_cons (pv 0) (pa_cons (pe_tup (pa_cons (tyn (n := "list") t.n_list) (pa_cons (tyn (n := "tuple") t.n_tuple) pa_nil))) pa_nil))))) (pss_one ps_never) pss_nil)
      (pss_cons (ps_for PassesOwn.never rfl (pi_list (pv 0)) (gv 2 nd) (pss_one (ps_if (pt_not (pt_val (pe_c (c_is_pair t) hr (by decide) (pa_cons (pv 2) (pa_cons (pv 1) pa_nil))))) (pss_one ps_never) pss_nil)))
      (pss_one (ps_ret (cb (cr_sortedP rfl h64) t.n_sorted (pa_cons (sc1 2 rfl hu8 nd (pi_list (pv 0)) (fun _ _ _ _ _ => pe_tup (pa_cons (cb (id := "min") (cr_minT rfl h64) t.n_min (pa_cons (pv 2) pa_nil)) (pa_cons (cb (id := "max") (cr_maxT rfl h64) t.n_max (pa_cons (pv 2) pa_nil)) pa_nil)))
        (bk ["ties", "held", "item"] s_pairs_told)) pa_nil))))), ?_⟩
    refine ⟨_, rfl, line2, fun tp htp => ?_⟩
    have s0 : St1 H (upd H tp (.tup [.ty "list", .ty "tuple"])) := ext_new htp
    refine ⟨_, tp, _, _, _, true, rfl, upd_same, cls_lt, .base (.lst (s0 _ _ hl)), kit_lt_l, _, rfl, ?_⟩
    refine ⟨_, rfl, l, rfl, ⟨_, SqL.of (s0 _ _ hl)⟩, for_it walk_list (fun i σ H' => ∃ o, σ = [some (.ref l), some (.ref d), o] ∧ St1 H H') ⟨_, rfl, s0⟩ (fun i σ H' _ h => let ⟨_, _, s⟩ := h; SqL.of (s _ _ hl)) (fun i x σ H2 H' hi h hy => ?_) (fun σ H2 h => ?_)⟩
    · obtain ⟨o, rfl, s2⟩ := h
      obtain ⟨rfl, hx⟩ := hy
      rw [List.getElem?_map] at hx
      obtain ⟨p, hp, rfl⟩ := Option.map_eq_some_iff.mp hx
      have hm := List.mem_of_getElem? hp
      obtain ⟨m1, m2, m3⟩ := hin p.2 (by rw [← hts]; exact List.mem_map_of_mem hm)
      exact ⟨_, rfl, _, rfl, p.1, d, _, _, ns, f, rfl, s2 _ _ (hL p hm), s2 _ _ hd, m1, m2, m3, fun H3 u3 => ⟨true, rfl, ⟨_, rfl, s2.tr u3⟩⟩⟩
    · obtain ⟨o, rfl, s2⟩ := h
      refine ⟨_, rfl, l, rfl, ⟨_, SqL.of (s2 _ _ hl)⟩, fun D hD => ?_⟩
      have hDH : H D = none := by
        cases e : H D with
        | none => rfl
        | some u => rw [s2 _ _ e] at hD; cases hD
      refine sc_it walk_list (fun i H' => St1 H2 H' ∧ ∃ M, H' D = some (TSS.SetTO P w D M) ∧ (∀ p ∈ M, H' p.1 = some (.tup (p.2.map V.str)) ∧ ∃ x y, p.2 = [x, y]) ∧ M.length ≤ i ∧ ∀ p : Pr, p ∈ M.map (fun q => pr2 q.2) ↔ p ∈ (ts.take i).map mm)
        ⟨ext_new hD, [], upd_same, fun p hp => absurd hp (by simp), Nat.le_refl _, fun p => by simp⟩ (fun i H' _ h => SqL.of (h.1 _ _ (s2 _ _ hl))) (fun i x H3 H' hi h hy => ?_) (fun H3 h => ?_)
      · obtain ⟨s3, M, hM, hMt, hMl, hMm⟩ := h
        obtain ⟨rfl, hx⟩ := hy
        rw [List.getElem?_map] at hx
        obtain ⟨p, hp, rfl⟩ := Option.map_eq_some_iff.mp hx
        have hm := List.mem_of_getElem? hp
        have hpt := s3 _ _ (s2 _ _ (hL p hm))
        refine ⟨rfl, ⟨_, rfl, p.1, _, _, rfl, SqT.of hpt, _, rfl, p.1, _, _, rfl, SqT.of hpt, line2, fun tq htq => ?_⟩⟩
        have s4 : St1 H' (upd H' tq (.tup [.str (mm p.2).1, .str (mm p.2).2])) := ext_new htq
        have hti : ts[i]? = some p.2 := by rw [← hts, List.getElem?_map, hp]; rfl
        have tk : (ts.take (i + 1)).map mm = (ts.take i).map mm ++ [mm p.2] := by rw [take_next hti, List.map_append]; rfl
        have hDne : ∀ q o, H' q = some (.tup o) → q ≠ D := fun q o h z => by rw [z, hM] at h; cases h
        have hlen : i < L.length := by
          have := (List.getElem?_eq_some_iff.mp hp).1
          exact this
        have hLt : L.length = ts.length := by rw [← hts, List.length_map]
        refine ⟨tq, [(mm p.2).1, (mm p.2).2], M, rfl, s4 _ _ hM, SqT.of upd_same, fun r hr => SqT.of (s4 _ _ (hMt r hr).1), by omega, fun L' c1 c2 => ⟨(s3.tr s4).rd hD, L', upd_same, ?_⟩⟩
        have tqD : tq ≠ D := fun z => by rw [z, hM] at htq; cases htq
        have tup5 : ∀ r : Addr × List Str, r ∈ M → upd (upd H' tq (.tup [.str (mm p.2).1, .str (mm p.2).2])) D (TSS.SetTO P w D L') r.1 = some (.tup (r.2.map V.str)) := fun r hr => by
          have := (hMt r hr).1
          rw [upd_ne (hDne _ _ this)]
          exact s4 _ _ this
        by_cases c : [(mm p.2).1, (mm p.2).2] ∈ M.map (·.2)
        · obtain rfl := c1 c
          refine ⟨fun r hr => ⟨tup5 r hr, (hMt r hr).2⟩, by omega, fun y => ?_⟩
          rw [hMm y, tk, List.mem_append, List.mem_singleton]
          refine ⟨.inl, fun z => z.elim id fun z => ?_⟩
          rw [z, ← hMm]
          obtain ⟨r, hr, e⟩ := List.mem_map.mp c
          exact List.mem_map.mpr ⟨r, hr, by rw [e]; rfl⟩
        · have pm := c2 c
          refine ⟨fun r hr => ?_, by rw [pm.length_eq, List.length_cons]; omega, fun y => ?_⟩
          · rcases List.mem_cons.mp (pm.mem_iff.mp hr) with z | z
            · subst z
              exact ⟨by rw [upd_ne tqD, upd_same]; rfl, _, _, rfl⟩
            · exact ⟨tup5 r z, (hMt r z).2⟩
          · rw [(pm.map fun q => pr2 q.2).mem_iff, List.map_cons, List.mem_cons, hMm y, tk, List.mem_append, List.mem_singleton]
            exact or_comm
      · obtain ⟨s3, M, hM, hMt, hMl, hMm⟩ := h
        refine ⟨D, M, rfl, hM, fun p hp => ⟨SqT.of (hMt p hp).1, (hMt p hp).2⟩, fun L' a pm srt ha => ?_⟩
        have s4 : St1 H3 (upd H3 a (.lst (L'.map fun q => V.ref q.1))) := ext_new ha
        refine q _ a (L'.map fun q => pr2 q.2) (Up.all ((s2.tr s3).tr s4)) ⟨L'.map fun q => (q.1, pr2 q.2), ?_, ?_, ?_⟩ srt (fun y => ?_)
        · rw [upd_same, List.map_map]; rfl
        · intro r hr
          obtain ⟨r0, hr0, rfl⟩ := List.mem_map.mp hr
          obtain ⟨h1, x, y, h2⟩ := hMt r0 (pm.mem_iff.mp hr0)
          have := s4 _ _ h1
          rw [h2] at this ⊢
          exact this
        · rw [List.map_map]; rfl
        · have hLt : L.length = ts.length := by rw [← hts, List.length_map]
          rw [(pm.map fun q => pr2 q.2).mem_iff, hMm y, List.length_map, hLt, List.take_length]
end
end SH
/-! W6 -/
set_option Elab.async false
set_option linter.all false
set_option maxRecDepth 100000
set_option maxHeartbeats 4000000
namespace SH
open PySem PySem.Spec PyProof.Rows L2 LamX
theorem rising_le : ∀ (ys : List Str) (p : Str), risingS p ys = true → (p :: ys).Pairwise fun a b => ¬ slt b a
  | [], p, _ => List.pairwise_singleton _ _
  | y :: r, p, h => by
    unfold risingS at h
    rw [Bool.and_eq_true, Bool.not_eq_true'] at h
    have ih := rising_le r y h.2
    have h1 : ¬ slt y p := fun z => by
      have : ltCps y.cps.toList p.cps.toList = true := by rw [ltCps_eq]; exact decide_eq_true z
      rw [h.1] at this; cases this
    refine List.pairwise_cons.mpr ⟨fun b hb => ?_, ih⟩
    rcases List.mem_cons.mp hb with rfl | hb
    · exact h1
    · intro z
      have h2 := (List.pairwise_cons.mp ih).1 b hb
      rcases slt_tri y p with k | k | k
      · exact h1 k
      · exact h2 (by rw [k]; exact z)
      · exact h2 (slt_trans z k)
theorem sorted_slt {ys : List Str} (h : sortedS ys = true) (nd : ys.Nodup) : ys.Pairwise slt := by
  cases ys with
  | nil => exact .nil
  | cons y r =>
    have h1 := rising_le r y h
    refine (List.Pairwise.and h1 nd).imp fun {a b} z => ?_
    rcases slt_tri a b with k | k | k
    · exact k
    · exact absurd k z.2
    · exact absurd k z.1
section
variable {P : Program} {w : World} {K : Frg} {mg : Str → Option Value} {base : Heap}
def spPlT (K : Frg) : Sp := fun vs H Q _ => ∃ (l d : Addr) (os ns : List Str) (fv : Str → V), vs = [.ref l, .ref d] ∧ H l = some (.lst (os.map V.str)) ∧ H d = some (.dK (mp ns fv)) ∧ (∀ p ∈ os, p ∈ ns) ∧ os.length ≤ 40 ∧ os.Nodup ∧
  ∀ (H' : Hp) (a : Addr) (ds : List Str), Up K H H' → H' a = some (.lst (ds.map V.str)) → ds.Pairwise slt → ds.Perm os → Q (.ref a) H'
theorem sc_places_told : FnScope ["outlets", "held", "item"] ["outlets", "held"] (defScope s_places_told) := sc_of
theorem c_places_told (t : T K mg) : Cal P w K mg base 2 "places_told" (spPlT K) [] := by
  refine cal_of t.d_places_told sc_places_told (fun _ _ _ _ _ _ us hl => match us, hl with | [_, _], _ => rfl) (fun vs H Q E h => ?_) (fun f cdv A outer s H vs Q E hr h => ?_)
  · obtain ⟨l, _, _, _, _, rfl, _⟩ := h
    rfl
  · obtain ⟨l, d, os, ns, fv, rfl, hl, hd, hin, few, ndo, q⟩ := h
    have nd := sc_places_told.nd
    have h64 := hr.units
    refine ⟨_, pss_cons (ps_if (pt_not (pt_val (bIsiT t.n_isinstance (pa_cons (pv 0) (pa_cons (pe_tup (pa_cons (tyn (n := "list") t.n_list) (pa_cons (tyn (n := "tuple") t.n_tuple) pa_nil))) pa_nil))))) (pss_one ps_never) pss_nil)
      (pss_cons (ps_for PassesOwn.never rfl (pi_list (pv 0)) (gv 2 nd) (pss_one (ps_if (pt_not (pt_val (pe_c (c_is_key t) hr (by decide) (pa_cons (pv 2) (pa_cons (pv 1) pa_nil))))) (pss_one ps_never) pss_nil)))
      (pss_one (ps_ret (cb (cr_sortedX rfl h64) t.n_sorted (pa_cons (ct (cr_setX rfl h64) t.n_set (pa_cons (pv 0) pa_nil)) pa_nil))))), ?_⟩
    refine ⟨_, rfl, line2, fun tp htp => ?_⟩
    have s0 : St1 H (upd H tp (.tup [.ty "list", .ty "tuple"])) := ext_new htp
    refine ⟨_, tp, _, _, _, true, rfl, upd_same, cls_lt, .base (.lst (s0 _ _ hl)), kit_lt_l, _, rfl, ?_⟩
    refine ⟨_, rfl, l, rfl, ⟨_, SqL.of (s0 _ _ hl)⟩, for_it walk_names (fun i σ H' => ∃ o, σ = [some (.ref l), some (.ref d), o] ∧ St1 H H') ⟨_, rfl, s0⟩ (fun i σ H' _ h => let ⟨_, _, s⟩ := h; SqL.of (s _ _ hl)) (fun i x σ H2 H' hi h hy => ?_) (fun σ H2 h => ?_)⟩
    · obtain ⟨o, rfl, s2⟩ := h
      obtain ⟨rfl, n, hn, rfl⟩ := hy
      exact ⟨_, rfl, _, rfl, n, d, ns, fv, rfl, s2 _ _ hd, hin n (List.mem_of_getElem? hn), true, rfl, ⟨_, rfl, s2⟩⟩
    · obtain ⟨o, rfl, s2⟩ := h
      refine ⟨_, rfl, l, os, rfl, SqL.of (s2 _ _ hl), ndo, by omega, fun a ha => ?_⟩
      refine ⟨a, os, rfl, upd_same, ndo, by omega, fun ds p pm srt hp => ?_⟩
      exact q _ p ds ((Up.all s2).trans ((Up.new ha).trans (Up.new hp))) upd_same srt pm
/-- neighbours, of a list of pairs -/
def nb (ns : List Str) (ps : List Pr) (n : Str) : List Str := ns.filter fun m => decide ((n, m) ∈ ps) || decide ((m, n) ∈ ps)
def adj (ps : List Pr) (n : Str) : List Str := ps.flatMap fun p => (if p.1 = n then [p.2] else []) ++ (if p.2 = n then [p.1] else [])
theorem adj_snoc (ps : List Pr) (p : Pr) (n : Str) : adj (ps ++ [p]) n = adj ps n ++ ((if p.1 = n then [p.2] else []) ++ (if p.2 = n then [p.1] else [])) := by
  unfold adj; rw [List.flatMap_append, List.flatMap_singleton]
theorem mem_adj {ps : List Pr} {n m : Str} : m ∈ adj ps n ↔ (n, m) ∈ ps ∨ (m, n) ∈ ps := by
  unfold adj
  rw [List.mem_flatMap]
  constructor
  · rintro ⟨p, hp, h⟩
    rcases List.mem_append.mp h with h | h
    · by_cases c : p.1 = n
      · rw [if_pos c, List.mem_singleton] at h
        exact .inl (by rw [h, ← c]; exact hp)
      · rw [if_neg c] at h; cases h
    · by_cases c : p.2 = n
      · rw [if_pos c, List.mem_singleton] at h
        exact .inr (by rw [h, ← c]; exact hp)
      · rw [if_neg c] at h; cases h
  · rintro (h | h)
    · exact ⟨_, h, List.mem_append_left _ (by rw [if_pos rfl]; exact List.mem_singleton_self _)⟩
    · exact ⟨_, h, List.mem_append_right _ (by rw [if_pos rfl]; exact List.mem_singleton_self _)⟩
/-- how often a name is told -/
theorem adj_nodup : ∀ {ps : List Pr} {n : Str}, ps.Nodup → (∀ p ∈ ps, slt p.1 p.2) → (adj ps n).Nodup
  | [], _, _, _ => List.nodup_nil
  | p :: ps, n, nd, o => by
    obtain ⟨h1, h2⟩ := List.nodup_cons.mp nd
    have ih := adj_nodup (n := n) h2 fun q hq => o q (List.mem_cons_of_mem _ hq)
    have op := o p List.mem_cons_self
    show (((if p.1 = n then [p.2] else []) ++ (if p.2 = n then [p.1] else [])) ++ adj ps n).Nodup
    by_cases c1 : p.1 = n
    · have c2 : p.2 ≠ n := fun z => slt_irr p.1 (by rw [← c1] at z; rw [z] at op; exact op)
      rw [if_pos c1, if_neg c2, List.append_nil]
      refine List.nodup_cons.mpr ⟨fun z => ?_, ih⟩
      rcases mem_adj.mp z with z | z
      · exact h1 (by rw [← c1] at z; exact z)
      · have := o _ (List.mem_cons_of_mem _ z)
        rw [← c1] at this
        exact slt_asymm op this
    · rw [if_neg c1, List.nil_append]
      by_cases c2 : p.2 = n
      · rw [if_pos c2]
        refine List.nodup_cons.mpr ⟨fun z => ?_, ih⟩
        rcases mem_adj.mp z with z | z
        · have := o _ (List.mem_cons_of_mem _ z)
          rw [← c2] at this
          exact slt_asymm op this
        · exact h1 (by rw [← c2] at z; exact z)
      · rw [if_neg c2]
        exact ih
theorem adj_sorted {ns : List Str} {ps : List Pr} {n : Str} {ys : List Str} (srt : ns.Pairwise slt) (pnd : ps.Nodup) (o : ∀ p ∈ ps, p.1 ∈ ns ∧ p.2 ∈ ns ∧ slt p.1 p.2) (pm : ys.Perm (adj ps n)) (hs : sortedS ys = true) : ys = nb ns ps n := by
  have nda := adj_nodup (n := n) pnd fun p hp => (o p hp).2.2
  have ndn : (nb ns ps n).Nodup := ((srt.imp fun {a b} h (e : a = b) => slt_irr a (by rw [← e] at h; exact h)) : ns.Nodup).filter _
  have h1 : ys.Pairwise slt := sorted_slt hs (pm.nodup_iff.mpr nda)
  have h2 : (nb ns ps n).Pairwise slt := srt.filter _
  refine sorted_uniq (fun a b h => slt_asymm h) (pm.trans ?_) h1 h2
  refine (List.perm_ext_iff_of_nodup nda ndn).mpr fun m => ?_
  rw [mem_adj]
  unfold nb
  rw [List.mem_filter, Bool.or_eq_true, decide_eq_true_eq, decide_eq_true_eq]
  refine ⟨fun z => ⟨?_, z⟩, fun z => z.2⟩
  rcases z with z | z
  · exact (o _ z).2.1
  · exact (o _ z).1
theorem adj_len {ns : List Str} {ps : List Pr} {n : Str} (pnd : ps.Nodup) (o : ∀ p ∈ ps, p.1 ∈ ns ∧ p.2 ∈ ns ∧ slt p.1 p.2) : (adj ps n).length ≤ ns.length :=
  len_of_nodup (adj_nodup pnd fun p hp => (o p hp).2.2) fun m hm => by
    rcases mem_adj.mp hm with z | z
    · exact (o _ z).2.1
    · exact (o _ z).1
end
end SH
/-! W7 -/
set_option Elab.async false
set_option linter.all false
set_option maxRecDepth 100000
set_option maxHeartbeats 4000000
namespace SH
open PySem PySem.Spec PyProof.Rows L2 LamX
theorem pick_al {ns : List Str} {f : Str → V} {p : Str → Addr → Prop} (r : ∀ n ∈ ns, ∃ a, f n = .ref a ∧ p n a) : ∃ al : Str → Addr, ∀ n ∈ ns, f n = .ref (al n) ∧ p n (al n) := by
  refine ⟨fun n => if h : n ∈ ns then Classical.choose (r n h) else 0, fun n hn => ?_⟩
  show f n = .ref (dite _ _ _) ∧ p n (dite _ _ _)
  rw [dif_pos hn]
  exact Classical.choose_spec (r n hn)
/-- {n: [] for n in ..}: a new list each -/
theorem dcE {J : It} {G : Hp → Prop} {Y : Nat → Hp → V → Hp → Prop} {ns : List Str} (nd : ns.Nodup) (w : Walk J ns.length G Y) {g : TG} {tk tv : TE} {vs : List Nat} {σ : L2.St} {H1 : Hp} {D : Addr} {Qd : Hp → Prop} (hD : H1 D = none) (few : ns.length ≤ 100000) (hG : ∀ H, St1 H1 H → G H)
    (hs : ∀ i n x H H' (Py : V → V → Hp → Prop), ns[i]? = some n → Y i H x H' → (∀ a, H a = none → Py (.str n) (.ref a) (upd H a (.lst []))) →
      g x (wipe σ vs) H' fun σ2 H2 => wipe σ2 vs = wipe σ vs ∧ tk σ2 H2 fun y H3 => tv σ2 H3 fun z H4 => Py y z H4)
    (hd : ∀ H (nl : Str → Addr), St1 H1 H → H D = some (.dK (mp ns fun n => .ref (nl n))) → (∀ n ∈ ns, H (nl n) = some (.lst []) ∧ H1 (nl n) = none) → (∀ n ∈ ns, ∀ m ∈ ns, nl n = nl m → n = m) → Qd H) :
    ∃ W : Nat → Nat → Hp → Prop, (∃ m, W 0 m (upd H1 D (.dK []))) ∧ ∀ i m H, W i m H →
      (J.stop i H ∧ Qd H) ∨ (J.go i H ∧ ∃ Nx : Hp → Prop, (∀ H', Nx H' → ∃ m', m' < m ∧ W (i + 1) m' H') ∧ ∀ x H', J.yld i H x H' → g x (wipe σ vs) H' fun σ2 H2 => wipe σ2 vs = wipe σ vs ∧ tYes σ2 H2 fun b H3 =>
        if b = true then tk σ2 H3 fun y H4 => tv σ2 H4 fun z H5 => ∃ kvs k, y = kV k ∧ H5 D = some (.dK kvs) ∧ kvs.length < sizeLine ∧ Nx (upd H5 D (.dK (putK kvs k z))) else Nx H3) := by
  refine ⟨fun i m H => m = ns.length - i ∧ i ≤ ns.length ∧ St1 H1 H ∧ ∃ nl : Str → Addr, H D = some (.dK (mp (ns.take i) fun n => .ref (nl n))) ∧ (∀ n ∈ ns.take i, H (nl n) = some (.lst []) ∧ H1 (nl n) = none) ∧ ∀ n ∈ ns.take i, ∀ m ∈ ns.take i, nl n = nl m → n = m,
    ⟨ns.length, by simp, Nat.zero_le _, ext_new hD, fun _ => 0, upd_same, fun n h => absurd h (by simp), fun n h => absurd h (by simp)⟩, ?_⟩
  rintro i m H ⟨rfl, hi, u, nl, e, r, inj⟩
  have q := hG H u
  by_cases hlt : i < ns.length
  · refine .inr ⟨w.goes i H hlt q, fun H => i + 1 ≤ ns.length ∧ St1 H1 H ∧ ∃ nl : Str → Addr, H D = some (.dK (mp (ns.take (i + 1)) fun n => .ref (nl n))) ∧ (∀ n ∈ ns.take (i + 1), H (nl n) = some (.lst []) ∧ H1 (nl n) = none) ∧ ∀ n ∈ ns.take (i + 1), ∀ m ∈ ns.take (i + 1), nl n = nl m → n = m,
      fun H' p' => ⟨ns.length - (i + 1), by omega, rfl, p'.1, p'.2⟩, fun x H' y => ?_⟩
    obtain ⟨n, hn⟩ : ∃ n, ns[i]? = some n := ⟨_, List.getElem?_eq_getElem hlt⟩
    have hnew := nodup_take_new nd hn
    refine hs i n x H H' (fun y z H5 => ∃ kvs k, y = kV k ∧ H5 D = some (.dK kvs) ∧ kvs.length < sizeLine ∧ (i + 1 ≤ ns.length ∧ St1 H1 (upd H5 D (.dK (putK kvs k z))) ∧ ∃ nl : Str → Addr, (upd H5 D (.dK (putK kvs k z))) D = some (.dK (mp (ns.take (i + 1)) fun n => .ref (nl n))) ∧
      (∀ n ∈ ns.take (i + 1), (upd H5 D (.dK (putK kvs k z))) (nl n) = some (.lst []) ∧ H1 (nl n) = none) ∧ ∀ n ∈ ns.take (i + 1), ∀ m ∈ ns.take (i + 1), nl n = nl m → n = m))
      hn (w.yields i H x H' hlt q y) (fun a ha => ?_)
    have haD : a ≠ D := fun z => by rw [z, e] at ha; cases ha
    have ha1 : H1 a = none := by
      cases c : H1 a with
      | none => rfl
      | some o => rw [u _ _ c] at ha; cases ha
    refine ⟨_, .inr n, rfl, (upd_ne (Ne.symm haD)).trans e, by rw [mp_len, List.length_take]; exact line8' (by omega), hlt, (u.tr (ext_new ha)).rd hD, fun m => if m = n then a else nl m, ?_, ?_, ?_⟩
    · rw [upd_same, putK_new hnew, mp_take hn]
      show some (HO.dK (mp (ns.take i) (fun n => .ref (nl n)) ++ [(Sum.inr n, .ref a)])) = some (HO.dK (mp (ns.take i) (fun m => .ref (if m = n then a else nl m)) ++ [(Sum.inr n, .ref (if n = n then a else nl n))]))
      rw [if_pos rfl, mp_congr (f := fun n => .ref (nl n)) (g := fun m => .ref (if m = n then a else nl m)) fun m hm => by rw [if_neg (fun (z : m = n) => hnew (z ▸ hm))]]
    · intro m hm
      rw [take_next hn] at hm
      rcases List.mem_append.mp hm with h | h
      · have hmn : m ≠ n := fun z => hnew (z ▸ h)
        show upd _ D _ (if m = n then a else nl m) = _ ∧ H1 (if m = n then a else nl m) = none
        rw [if_neg hmn]
        obtain ⟨r1, r2⟩ := r m h
        refine ⟨?_, r2⟩
        rw [upd_ne (fun z => by rw [z, e] at r1; cases r1), upd_ne (fun z => by rw [z, ha] at r1; cases r1)]
        exact r1
      · obtain rfl := List.mem_singleton.mp h
        show upd _ D _ (if m = m then a else nl m) = _ ∧ H1 (if m = m then a else nl m) = none
        rw [if_pos rfl]
        exact ⟨by rw [upd_ne haD, upd_same], ha1⟩
    · intro x hx y hy hxy
      have hxy : (if x = n then a else nl x) = (if y = n then a else nl y) := hxy
      have old : ∀ z, z ∈ ns.take (i + 1) → z ≠ n → z ∈ ns.take i := fun z hz hzn => by
        rw [take_next hn] at hz
        rcases List.mem_append.mp hz with h | h
        · exact h
        · exact absurd (List.mem_singleton.mp h) hzn
      have na : ∀ z, z ∈ ns.take i → nl z ≠ a := fun z hz c => by
        have := (r z hz).1
        rw [c, ha] at this; cases this
      by_cases c1 : x = n <;> by_cases c2 : y = n
      · rw [c1, c2]
      · rw [if_pos c1, if_neg c2] at hxy
        exact absurd hxy.symm (na y (old y hy c2))
      · rw [if_neg c1, if_pos c2] at hxy
        exact absurd hxy (na x (old x hx c1))
      · rw [if_neg c1, if_neg c2] at hxy
        exact inj x (old x hx c1) y (old y hy c2) hxy
  · have hh : i = ns.length := by omega
    subst hh
    rw [List.take_length] at e r inj
    exact .inl ⟨w.stops H q, hd H nl u e r inj⟩
section
variable {P : Program} {w : World} {K : Frg} {mg : Str → Option Value} {base : Heap}
def NrAt (H : Hp) (d : Addr) (ns : List Str) (ps : List Pr) : Prop := ∃ nl : Str → Addr, H d = some (.dK (mp ns fun n => .ref (nl n))) ∧ ∀ n ∈ ns, H (nl n) = some (.lst ((nb ns ps n).map V.str))
def spNear (K : Frg) : Sp := fun vs H Q _ => ∃ (d l : Addr) (ns : List Str) (ps : List Pr) (fv : Str → V), vs = [.ref d, .ref l] ∧ H d = some (.dK (mp ns fv)) ∧ PairsAt H l ps ∧ ns.Pairwise slt ∧ ns.length ≤ 8 ∧ ps.Nodup ∧ (∀ p ∈ ps, p.1 ∈ ns ∧ p.2 ∈ ns ∧ slt p.1 p.2) ∧ ps.length ≤ 100 ∧
  ∀ H' a, Up K H H' → NrAt H' a ns ps → Q (.ref a) H'
theorem sc_nearby : FnScope ["held", "pairs", "near", "name", "one", "other"] ["held", "pairs"] (defScope s_nearby) := sc_of
theorem c_nearby (t : T K mg) : Cal P w K mg base 1 "nearby" (spNear K) [] := by
  refine cal_of t.d_nearby sc_nearby (fun _ _ _ _ _ _ us hl => match us, hl with | [_, _], _ => rfl) (fun vs H Q E h => ?_) (fun f cdv A outer s H vs Q E hr h => ?_)
  · obtain ⟨l, _, _, _, _, rfl, _⟩ := h
    rfl
  · obtain ⟨d, l, ns, ps, fv, rfl, hd, ⟨L, hl, hL, hps⟩, srt, few, pnd, hin, pfew, q⟩ := h
    have nd := sc_nearby.nd
    have hu := hu_of hr
    have nsd : ns.Nodup := srt.imp fun {a b} z (e : a = b) => slt_irr a (by rw [← e] at z; exact z)
    refine ⟨_, pss_cons (sv 2 nd (pe_lock (dc1 3 rfl nd (pi_keys (pv 0)) (fun _ _ _ _ _ => pv 3) (fun _ _ _ _ _ => pe_lst pa_nil) (bk ["held", "pairs", "near", "name", "one", "other"] s_nearby))))
      (pss_cons (ps_for PassesOwn.never rfl (pi_list (pv 1)) (pg_tup rfl (pgs_cons (gv 4 nd) (pgs_cons (gv 5 nd) pgs_nil)))
        (pss_cons (ps_expr (pe_bm PySem.F.plainAttrs_list PySem.F.slot_list_append PySem.F.type_list_append mt_append (pe_dget hu (pv 2) (pv 4) (fun _ _ => rfl)) (pa_cons (pv 5) pa_nil)))
          (pss_one (ps_expr (pe_bm PySem.F.plainAttrs_list PySem.F.slot_list_append PySem.F.type_list_append mt_append (pe_dget hu (pv 2) (pv 5) (fun _ _ => rfl)) (pa_cons (pv 4) pa_nil))))))
      (pss_one (ps_ret (pe_lock (dc1 3 rfl nd (pi_keys (pv 2)) (fun _ _ _ _ _ => pv 3) (fun _ _ _ _ _ => cb (id := "sorted") cr_sortedS t.n_sorted (pa_cons (pe_dget hu (pv 2) (pv 3) (fun _ _ => rfl)) pa_nil)) (bk ["held", "pairs", "near", "name", "one", "other"] s_nearby)))))), ?_⟩
    refine ⟨d, _, hd, trivial, fun od => ⟨_, rfl, d, od, rfl, .inl ⟨_, upd_same, fun D hD => dcE nsd walk_mp hD (by omega) (fun H u => u _ _ upd_same)
      (fun i n x H2 H' Py hn hy k => ?_) (fun H2 nl u e r inj => ?_)⟩⟩⟩
    · obtain ⟨rfl, n', hn', rfl⟩ := hy
      obtain rfl : n = n' := Option.some.inj (hn.symm.trans hn')
      exact ⟨rfl, _, rfl, line8 (by decide), fun p hp => k p hp⟩
    · refine ⟨u _ _ upd_same, ?_⟩
      have hdD : D ≠ d := fun z => by rw [z, upd_same] at hD; cases hD
      have st0 : St1 H (upd H2 d (.dK (mp ns fv))) := fun b o hb => by
        by_cases z : b = d
        · rw [z, hd] at hb; rw [z, upd_same]; exact hb
        · rw [upd_ne z]; exact u _ _ (by rw [upd_ne z]; exact hb)
      have nl0 : ∀ n ∈ ns, H (nl n) = none ∧ nl n ≠ d := fun n hn => by
        have := (r n hn).2
        by_cases z : nl n = d
        · rw [z, upd_same] at this; cases this
        · rw [upd_ne z] at this; exact ⟨this, z⟩
      have DH : H D = none := by rw [upd_ne hdD] at hD; exact hD
      refine ⟨_, rfl, l, rfl, ⟨_, SqL.of (st0 _ _ hl)⟩, for_it walk_list (fun i σ H' => ∃ o3 o4 o5, σ = [some (.ref d), some (.ref l), some (.ref D), o3, o4, o5] ∧ St1 H H' ∧ H' D = some (.dK (mp ns fun n => .ref (nl n))) ∧ ∀ n ∈ ns, H' (nl n) = some (.lst ((adj (ps.take i) n).map V.str)))
        ⟨_, _, _, rfl, st0, (upd_ne hdD).trans e, fun n hn => (upd_ne (nl0 n hn).2).trans (r n hn).1⟩ (fun i σ H' _ h => let ⟨_, _, _, _, s, _⟩ := h; SqL.of (s _ _ hl)) (fun i x σ H3 H' hi h hy => ?_) (fun σ H3 h => ?_)⟩
      · obtain ⟨o3, o4, o5, rfl, s3, e3, r3⟩ := h
        obtain ⟨rfl, hx⟩ := hy
        rw [List.getElem?_map] at hx
        obtain ⟨p, hp, rfl⟩ := Option.map_eq_some_iff.mp hx
        have hm := List.mem_of_getElem? hp
        have hpi : ps[i]? = some p.2 := by rw [← hps, List.getElem?_map, hp]; rfl
        obtain ⟨m1, m2, m3⟩ := hin p.2 (List.mem_of_getElem? hpi)
        have ne12 : p.2.1 ≠ p.2.2 := fun z => slt_irr p.2.1 (by rw [← z] at m3; exact m3)
        have nlne : nl p.2.1 ≠ nl p.2.2 := fun z => ne12 (inj _ m1 _ m2 z)
        have nlD : ∀ n ∈ ns, nl n ≠ D := fun n hn z => by have := r3 n hn; rw [z, e3] at this; cases this
        have hadj : ∀ n, (adj (ps.take i) n).length < sizeLine := fun n => by
          have h1 : (ps.take i).Nodup := pnd.sublist (List.take_sublist _ _)
          have := adj_len (n := n) h1 fun p hp => hin p (List.mem_of_mem_take hp)
          exact line8' (by omega)
        refine ⟨p.1, _, rfl, SqT.of (s3 _ _ (hL p hm)), rfl, _, _, rfl, _, _, rfl, rfl, ?_⟩
        have dg1 : ∀ H' : Hp, H' D = some (.dK (mp ns fun n => .ref (nl n))) → ∀ n ∈ ns, DGet H' D (.str n) (some (.ref (nl n))) := fun H' h n hn => dget_mp (f := fun n => V.ref (nl n)) (.inl h) hn
        refine ⟨_, rfl, _, rfl, D, _, rfl, dg1 _ e3 _ m1, .inl ⟨rfl, _, SqL.of (r3 _ m1)⟩, _, rfl, nl p.2.1, _, _, rfl, rfl, r3 _ m1, by rw [List.length_map]; exact hadj _, ?_⟩
        have e4 : (upd H' (nl p.2.1) (.lst ((adj (ps.take i) p.2.1).map V.str ++ [.str p.2.2]))) D = some (.dK (mp ns fun n => .ref (nl n))) := (upd_ne (Ne.symm (nlD _ m1))).trans e3
        have e5 : (upd H' (nl p.2.1) (.lst ((adj (ps.take i) p.2.1).map V.str ++ [.str p.2.2]))) (nl p.2.2) = some (.lst ((adj (ps.take i) p.2.2).map V.str)) := (upd_ne (Ne.symm nlne)).trans (r3 _ m2)
        refine ⟨_, rfl, _, rfl, D, _, rfl, dg1 _ e4 _ m2, .inl ⟨rfl, _, SqL.of e5⟩, _, rfl, nl p.2.2, _, _, rfl, rfl, e5, by rw [List.length_map]; exact hadj _, ?_⟩
        refine ⟨_, _, _, rfl, (s3.rd (nl0 _ m1).1).rd (nl0 _ m2).1, (upd_ne (Ne.symm (nlD _ m2))).trans e4, fun n hn => ?_⟩
        rw [take_next hpi, adj_snoc]
        by_cases c2 : n = p.2.2
        · subst c2
          rw [upd_same, if_neg ne12, if_pos rfl, List.nil_append, List.map_append]; rfl
        · rw [upd_ne (fun z => c2 (inj _ hn _ m2 z)), if_neg (Ne.symm c2 : p.2.2 ≠ n), List.append_nil]
          by_cases c1 : n = p.2.1
          · subst c1
            rw [upd_same, if_pos rfl, List.map_append]; rfl
          · rw [upd_ne (fun z => c1 (inj _ hn _ m1 z)), if_neg (Ne.symm c1 : p.2.1 ≠ n), List.append_nil]
            exact r3 n hn
      · obtain ⟨o3, o4, o5, rfl, s3, e3, r3⟩ := h
        rw [show (L.map fun q => V.ref q.1).length = ps.length by rw [List.length_map, ← hps, List.length_map], List.take_length] at r3
        refine ⟨D, _, e3, trivial, fun od => ⟨_, rfl, D, od, rfl, .inl ⟨_, upd_same, fun F hF => dcR (K := K) nsd walk_mp hF (fun n v H => ∃ a, v = .ref a ∧ H a = some (.lst ((nb ns ps n).map V.str))) (by omega) (fun H u => u.at upd_same)
          (fun z y H H' st ⟨a, e, h⟩ => ⟨a, e, st _ _ h trivial (fun xs c => nomatch c)⟩) (fun i n x H4 H' Py hn u hy k => ?_) (fun H4 fr u e r => ?_)⟩⟩⟩
        · obtain ⟨rfl, n', hn', rfl⟩ := hy
          obtain rfl : n = n' := Option.some.inj (hn.symm.trans hn')
          have hm := List.mem_of_getElem? hn
          have nlD : nl n ≠ D := fun z => by have := r3 n hm; rw [z, e3] at this; cases this
          have en : H' (nl n) = some (.lst ((adj ps n).map V.str)) := u.at ((upd_ne nlD).trans (r3 n hm))
          refine ⟨rfl, _, rfl, _, rfl, _, rfl, D, _, rfl, dget_mp (f := fun n => V.ref (nl n)) (rd_frz (u.at upd_same)) hm, nl n, _, rfl, SqL.of en, ?_, fun ys p pm hs hp => ?_⟩
          · have := adj_len (n := n) pnd hin
            omega
          · rw [adj_sorted srt pnd hin pm hs]
            exact k _ _ (Up.new hp) ⟨p, rfl, upd_same⟩
        · refine ⟨u.at upd_same, ?_⟩
          have hFD : F ≠ D := fun z => by rw [z, upd_same] at hF; cases hF
          have uu := Up.lock e3 trivial u
          refine q _ F ((Up.all (K := K) s3).trans uu) ?_
          obtain ⟨al, har⟩ := pick_al r
          refine ⟨al, ?_, fun n hn => ?_⟩
          · rw [upd_ne hFD, e, mp_congr fun n hn => (har n hn).1]
          · rw [upd_ne (fun z => by have := (har n hn).2; rw [z, u.at upd_same] at this; cases this)]
            exact (har n hn).2
end
end SH
/-! W8 -/
set_option Elab.async false
set_option linter.all false
set_option maxRecDepth 100000
set_option maxHeartbeats 4000000
namespace SH
open PySem PySem.Spec PyProof.Rows L2 LamX
/-- what Chart(..) makes -/
structure ChOf (ch : Ch) (ns : List Str) (lo hi : Str → Int) (ts : List Pr) (os : List Str) : Prop where
  ok : ch.Ok
  nm : ch.names.Perm ns
  lo : ch.low = lo
  hi : ch.high = hi
  pr : ∀ p, p ∈ ch.pairs ↔ p ∈ ts.map mm
  dr : ch.drains.Perm os
theorem mm_cases {p : Pr} (h : p.1 ≠ p.2) : (mm p = p ∧ slt p.1 p.2) ∨ (mm p = (p.2, p.1) ∧ slt p.2 p.1) := by
  unfold mm
  rcases slt_tri p.1 p.2 with k | k | k
  · rw [if_neg (slt_asymm k), if_pos k]; exact .inl ⟨rfl, k⟩
  · exact absurd k h
  · rw [if_pos k, if_neg (slt_asymm k)]; exact .inr ⟨rfl, k⟩
structure MetC (P : Program) (w : World) (K : Frg) (mg : Str → Option Value) (base : Heap) (k : Nat) (sp : Sp) : Prop where
  ex : ∃ (f : Addr) (fd : FuncData) (g : List Value → List Value → List Value), Cls K (cC K) ∧ Meth K (cC K) "__init__" f ∧ FnOk P w K mg base CX0 k f fd ["self", "places", "ties", "outlets"] sp ∧ KBn K fd ["self", "places", "ties", "outlets"] 3 ["outlets"] g (fun vs zs => vs ++ zs)
theorem pe_mkC {X : Cx} {k j : Nat} {sp : Sp} {p pos : Pos} {e : Expr} {es : List Expr} {kws : List Keyword} {t tk : TA} (c : MetC X.prog X.w X.K X.mg X.base k sp) (mk : PySem.W.makesIn X.K (cC X.K) = true) (kp : PySem.W.keepIn X.K (.ref (cC X.K)) = true) (hm : X.mg "Chart" = some (.ref (cC X.K)))
    (hr : Room j X.A) (hk : k + 1 ≤ j) (ha : PA X (e :: es) t) (hkw : PK X kws tk) (hg : Gl X "Chart" := by rfl)
    (hall : (backToKw pos (keywordEach kws X.env)).all (·.1.isSome) = true := by rfl) (hks : (backToKw pos (keywordEach kws X.env)).filterMap (·.1) = (["outlets"] : List Str) := by rfl)
    (he : starEach (e :: es) X.env = (false, eval e X.env) :: starEach es X.env := by rfl) (hpl : ((backTo pos (starEach (e :: es) X.env)).any (·.1) || (backToKw pos (keywordEach kws X.env)).any (·.1.isNone)) = false := by rfl) :
    PE X (.Call (.Name "Chart" p) (e :: es) kws pos) (tMakeK (cC X.K) 2 1 sp (fun vs zs => vs ++ zs) E0 t tk) := by
  obtain ⟨f, fd, g, hc, M, F, b⟩ := c.ex
  exact pe_makeK ⟨mk, M.at_, M.fn, kp⟩ F (hr.mono hk) hg hm b pass0 ha hkw hall hks (he := he) (hpl := hpl)
section
variable {P : Program} {w : World} {K : Frg} {mg : Str → Option Value} {base : Heap}
/-- the dict of a new chart is new -/
def HeldNew (H0 H' : Hp) (a : Addr) : Prop := ∀ (C dx : Addr) (fs : List (Str × V)) (dh : Addr), H' a = some (.ins C dx fs) → fs.lookup ("held" : Str) = some (V.ref dh) → ∀ kvs, H0 dh ≠ some (.dK kvs)
def spCInit (K : Frg) : Sp := fun vs H Q _ => ∃ (a dx dp lt lo : Addr) (H0 : Hp) (ns : List Str) (l h : Str → Int) (ts : List Pr) (os : List Str), vs = [.ref a, .ref dp, .ref lt, .ref lo] ∧ H = upd (upd H0 dx (.own a)) a (.ins (cC K) dx []) ∧ H0 a = none ∧ H0 dx = none ∧ dx ≠ a ∧
  PlAt K H0 dp ns l h ∧ PairsAt H0 lt ts ∧ H0 lo = some (.lst (os.map V.str)) ∧ ns.Nodup ∧ ns.length ≤ 8 ∧ (∀ n ∈ ns, GoodN n) ∧ (∀ n ∈ ns, GoodH (l n) ∧ GoodH (h n) ∧ l n ≤ h n) ∧ (∀ p ∈ ts, p.1 ∈ ns ∧ p.2 ∈ ns ∧ p.1 ≠ p.2) ∧ ts.length ≤ 40 ∧ os.Nodup ∧ (∀ p ∈ os, p ∈ ns) ∧
  ∀ H' ch, Up K H0 H' → ChartAt K H' a ch → HeldNew H0 H' a → ChOf ch ns l h ts os → Q .non H'
theorem PairsAt.wr {H : Hp} {a ap C dx : Addr} {fs : List (Str × V)} {o : HO} {ps : List Pr} (x : PairsAt H ap ps) (h : H a = some (.ins C dx fs)) : PairsAt (upd H a o) ap ps := by
  obtain ⟨L, e, r, t⟩ := x
  exact ⟨L, (upd_ne (ne_of e h (fun z => nomatch z))).trans e, fun q hq => (upd_ne (ne_of (r q hq) h (fun z => nomatch z))).trans (r q hq), t⟩
theorem NrAt.wr {H : Hp} {a d C dx : Addr} {fs : List (Str × V)} {o : HO} {ns : List Str} {ps : List Pr} (x : NrAt H d ns ps) (h : H a = some (.ins C dx fs)) : NrAt (upd H a o) d ns ps := by
  obtain ⟨nl, e, r⟩ := x
  exact ⟨nl, (upd_ne (ne_of e h (fun z => nomatch z))).trans e, fun q hq => (upd_ne (ne_of (r q hq) h (fun z => nomatch z))).trans (r q hq)⟩
theorem mp_fst {ns : List Str} {f : Str → V} : (mp ns f).map (·.1) = ns.map Sum.inr := by unfold mp; rw [List.map_map]; rfl
theorem sc_CInit : FnScope ["self", "places", "ties", "outlets", "name"] ["self", "places", "ties", "outlets"] (defScope s_Chart_init) := sc_of
theorem m_CInit (t : T K mg) : MetC P w K mg base 4 (spCInit K) := by
  obtain ⟨f, fd, F, M⟩ := t.d_Chart_init
  refine ⟨f, fd, _, t.clC, M, fn_body F sc_CInit (fun vs H Q E h => ?_) (fun f cdv A outer s H vs Q E hr h => ?_), Exists.choose_spec (Exists.choose_spec (F.kbinds 3 ["outlets"] [] (fun us its mv ws => us ++ ws) (List.cons_ne_nil _ _) (List.cons_ne_nil _ _) (fun q hq => absurd hq (by simp)) (fun r1 _ _ r4 => r1.append r4) ?_))⟩
  · obtain ⟨a, _, _, _, _, _, _, _, _, _, _, rfl, _⟩ := h
    rfl
  · obtain ⟨a, dx, dp, lt, lo, H0, ns, l, h, ts, os, rfl, rfl, ha, hdx, hne, ⟨bd, hd, hb⟩, ⟨L, hl, hL, hts⟩, hos, nsd, few, gn, gh, hin, tfew, ond, oin, q⟩ := h
    have nd := sc_CInit.nd
    have hu := hu_of hr
    have s0 : St1 H0 (upd (upd H0 dx (.own a)) a (.ins (cC K) dx [])) := (show St1 H0 (upd H0 dx (.own a)) from ext_new hdx).rd ha
    have h64 := hr.units
    refine ⟨_, pss_cons (ps_if (pt_not (pt_val (pe_c (c_are_places t) hr (by decide) (pa_cons (pv 1) pa_nil)))) (pss_one ps_never) pss_nil)
      (pss_cons (ps_if (pt_cmpR op_gt (cb call_lenD t.n_len (pa_cons (pv 1) pa_nil)) (gin t.mP) (nomark _)) (pss_one ps_never) pss_nil)
      (pss_cons (ps_fld (pv 0) (dc1 4 rfl nd (pi_list (cb (call_sortedD rfl) t.n_sorted (pa_cons (pv 1) pa_nil))) (fun _ _ _ _ _ => pv 4) (fun _ _ _ _ _ => pe_dget hu (pv 1) (pv 4) (fun _ _ => rfl)) (bk ["self", "places", "ties", "outlets", "name"] s_Chart_init)) rfl)
      (pss_cons (ps_fld (pv 0) (pe_c (c_pairs_told t) hr (by decide) (pa_cons (pv 2) (pa_cons (pe_fld (pv 0) rfl) pa_nil))) rfl)
      (pss_cons (ps_fld (pv 0) (pe_c (c_places_told t) hr (by decide) (pa_cons (pv 3) (pa_cons (pe_fld (pv 0) rfl) pa_nil))) rfl)
      (pss_one (ps_fld (pv 0) (pe_c (c_nearby t) hr (by decide) (pa_cons (pe_fld (pv 0) rfl) (pa_cons (pe_fld (pv 0) rfl) pa_nil))) rfl)))))), ?_⟩
    have U1 : Up K H0 _ := Up.all s0
    have plH1 : PlAt K _ dp ns l h := PlAt.up ⟨bd, hd, hb⟩ U1
    refine ⟨_, rfl, dp, ns, l, h, rfl, plH1, gn, few, fun H2 u2 => ⟨true, rfl, ?_⟩⟩
    have U2 := U1.trans u2
    have hd2 := U2.at hd
    refine ⟨_, rfl, dp, _, rfl, hd2, _, _, rfl, rfl, false, congrArg V.bl (decide_eq_false (by rw [mp_len]; omega)), ?_⟩
    refine ⟨_, rfl, dp, _, ns, rfl, .inl hd2, mp_fst, by omega, fun ys p pm hs hp => ⟨p, rfl, ⟨_, SqL.of upd_same⟩, fun D hD => ?_⟩⟩
    have ynd : ys.Nodup := pm.nodup_iff.mpr nsd
    have ysrt : ys.Pairwise slt := sorted_slt hs ynd
    have ylen : ys.length ≤ 8 := by rw [pm.length_eq]; exact few
    refine dcF (K := K) ynd walk_names hD (fun n => .ref (bd n)) (by omega) (fun H u => SqL.of (u.at upd_same)) (fun i n x H4 H' Py hn u hy k => ?_) (fun H4 u4 eD => ?_)
    · obtain ⟨rfl, n', hn', rfl⟩ := hy
      obtain rfl : n = n' := Option.some.inj (hn.symm.trans hn')
      have hm : n ∈ ns := pm.mem_iff.mp (List.mem_of_getElem? hn)
      exact ⟨rfl, _, rfl, _, rfl, _, rfl, dp, _, rfl, dget_mp (f := fun n => V.ref (bd n)) (.inl (u.at ((upd_ne (ne_of_none hd2 hp)).trans hd2))) hm, k _ Up.rfl'⟩
    have a2 := u2.at (upd_same (H := upd H0 dx (.own a)) (a := a) (o := .ins (cC K) dx []))
    have a4 := u4.at ((upd_ne (ne_of_none a2 hp)).trans a2)
    have U4 := (U2.add hp).trans u4
    have neD : D ≠ a := ne_of eD a4 (fun z => nomatch z)
    refine ⟨_, rfl, a, _, dx, _, rfl, a4, t.clC, t.aC_held, by decide, ?_⟩
    have U5 := U4.wr (o := .ins (cC K) dx (putF "held" (.ref D) [])) ha a4 trivial
    have d5 : upd H4 a (.ins (cC K) dx (putF "held" (.ref D) [])) D = some (.dK (mp ys fun n => .ref (bd n))) := (upd_ne neD).trans eD
    refine ⟨_, rfl, _, rfl, a, _, dx, _, _, rfl, upd_same, t.clC, t.aC_held, rfl, lt, D, ts, ys, _, rfl, PairsAt.up ⟨L, hl, hL, hts⟩ U5, d5, fun p hp => ?_, tfew, fun H6 ap ps u6 hps psrt pmem => ?_⟩
    · obtain ⟨x1, x2, x3⟩ := hin p hp
      exact ⟨pm.mem_iff.mpr x1, pm.mem_iff.mpr x2, x3⟩
    have pnd : ps.Nodup := psrt.imp fun {a b} z (e : a = b) => ppl_irr a (by rw [← e] at z; exact z)
    have pin : ∀ p ∈ ps, p.1 ∈ ys ∧ p.2 ∈ ys ∧ slt p.1 p.2 := fun p hp => by
      obtain ⟨r, hr, rfl⟩ := List.mem_map.mp ((pmem p).mp hp)
      obtain ⟨x1, x2, x3⟩ := hin r hr
      rcases mm_cases x3 with ⟨e, z⟩ | ⟨e, z⟩
      · rw [e]; exact ⟨pm.mem_iff.mpr x1, pm.mem_iff.mpr x2, z⟩
      · rw [e]; exact ⟨pm.mem_iff.mpr x2, pm.mem_iff.mpr x1, z⟩
    have pfew : ps.length ≤ 40 := by
      have := len_of_nodup pnd fun p hp => (pmem p).mp hp
      rw [List.length_map] at this; omega
    have a6 := u6.at upd_same
    refine ⟨_, rfl, a, _, dx, _, rfl, a6, t.clC, t.aC_pairs, (by show (1 : Nat) < 1000; decide), ?_⟩
    have U7 := (U5.trans u6).wr (o := .ins (cC K) dx (putF "pairs" (.ref ap) (putF "held" (.ref D) []))) ha a6 trivial
    have d7 := (upd_ne (o := .ins (cC K) dx (putF "pairs" (.ref ap) (putF "held" (.ref D) []))) neD).trans (u6.at d5)
    have p7 := hps.wr (o := .ins (cC K) dx (putF "pairs" (.ref ap) (putF "held" (.ref D) []))) a6
    refine ⟨_, rfl, _, rfl, a, _, dx, _, _, rfl, upd_same, t.clC, t.aC_held, rfl, lo, D, os, ys, _, rfl, U7.at hos, d7, fun p hp => pm.mem_iff.mpr (oin p hp), ?_, ond, fun H8 ao ds u8 hds dsrt dpm => ?_⟩
    · exact Nat.le_trans (len_of_nodup ond oin) (by omega)
    have a8 := u8.at upd_same
    refine ⟨_, rfl, a, _, dx, _, rfl, a8, t.clC, t.aC_drains, (by show (2 : Nat) < 1000; decide), ?_⟩
    have U9 := (U7.trans u8).wr (o := .ins (cC K) dx (putF "drains" (.ref ao) (putF "pairs" (.ref ap) (putF "held" (.ref D) [])))) ha a8 trivial
    have d9 := (upd_ne (o := .ins (cC K) dx (putF "drains" (.ref ao) (putF "pairs" (.ref ap) (putF "held" (.ref D) [])))) neD).trans (u8.at d7)
    have p9 := (p7.up u8).wr (o := .ins (cC K) dx (putF "drains" (.ref ao) (putF "pairs" (.ref ap) (putF "held" (.ref D) [])))) a8
    have neo : ao ≠ a := ne_of hds a8 (fun z => nomatch z)
    have o9 := (upd_ne (o := .ins (cC K) dx (putF "drains" (.ref ao) (putF "pairs" (.ref ap) (putF "held" (.ref D) [])))) neo).trans hds
    refine ⟨_, rfl, a, _, dx, _, _, rfl, upd_same, t.clC, t.aC_held, rfl, _, rfl, a, _, dx, _, _, rfl, upd_same, t.clC, t.aC_pairs, rfl, D, ap, ys, ps, _, rfl, d9, p9, ysrt, ylen, pnd, pin, by omega, fun H10 an u10 hnr => ?_⟩
    have a10 := u10.at upd_same
    refine ⟨_, rfl, a, _, dx, _, rfl, a10, t.clC, t.aC_near, (by show (3 : Nat) < 1000; decide), ?_⟩
    have U11 := (U9.trans u10).wr (o := .ins (cC K) dx (putF "near" (.ref an) (putF "drains" (.ref ao) (putF "pairs" (.ref ap) (putF "held" (.ref D) []))))) ha a10 trivial
    refine q _ ⟨ys, l, h, ps, ds⟩ U11 ⟨dx, D, ap, ao, an, upd_same, ⟨bd, (upd_ne neD).trans (u10.at d9), fun n hn => (hb n (pm.mem_iff.mp hn)).up U11⟩, (p9.up u10).wr a10, (upd_ne neo).trans (u10.at o9), hnr.wr a10⟩ (fun C dx' fs dh e1 e2 kvs e3 => by
      rw [upd_same] at e1
      cases e1
      obtain rfl : D = dh := V.ref.inj (Option.some.inj e2)
      have := (U2.add (o := .lst (ys.map V.str)) hp).at e3
      rw [hD] at this; cases this) ⟨⟨ysrt, ylen, fun n hn => gn n (pm.mem_iff.mp hn), fun n hn => gh n (pm.mem_iff.mp hn), psrt, pfew, pin, dsrt, fun d hd => pm.mem_iff.mpr (oin d (dpm.mem_iff.mp hd))⟩, pm, rfl, rfl, pmem, dpm⟩
  · intro T D doc pm an cdv ct us its mv ws h1 h2 h3 h4
    match us, h1, its, h2, ws, h4, mv, h3 with
    | [u1, u2, u3], _, [d1], _, [w1], _, [], _ => exact ⟨_, rfl, by with_unfolding_all rfl⟩
end
end SH
/-! W9 -/
set_option Elab.async false
set_option linter.all false
set_option maxRecDepth 100000
set_option maxHeartbeats 4000000
namespace SH
open PySem PySem.Spec PyProof.Rows L2 LamX
/-- further facts -/
structure T2 (K : Frg) (mg : Str → Option Value) : Prop where
  t : T K mg
  fiC : ∀ f, Meth K (cC K) "__getitem__" f → PySem.W.fnIn K f = true
  fiL : ∀ f, Meth K (cL K) "__call__" f → PySem.W.fnIn K f = true
  neL : NeK K (cL K)
section
variable {P : Program} {w : World} {K : Frg} {mg : Str → Option Value} {base : Heap}
/-- whether a value is a place, by the chart -/
def spCIn (K : Frg) : Sp := fun vs H Q _ => ∃ (a : Addr) (v : V) (ch : Ch), vs = [.ref a, v] ∧ ChartAt K H a ch ∧ ((∃ n, v = .str n ∧ Q (.bl (decide (n ∈ ch.names))) H) ∨ ∃ ty, TyX K H v (.type ty) ∧ kitB ty "str" = some false ∧ Q (.bl false) H)
theorem sc_CIn : FnScope ["self", "value"] ["self", "value"] (defScope s_Chart_contains) := sc_of
theorem m_CIn (t : T K mg) : Met P w K mg base 1 (cC K) "__contains__" (spCIn K) := by
  refine met_of t.clC t.d_Chart_contains sc_CIn (fun _ _ _ _ _ _ us hl => match us, hl with | [_, _], _ => rfl) (fun vs H Q E h => ?_) (fun f cdv A outer s H vs Q E hr h => ?_)
  · obtain ⟨a, _, _, rfl, _⟩ := h
    rfl
  · obtain ⟨a, v, ch, rfl, ⟨dx, dh, dp, dd, dn, e, ⟨bd, eh, hb⟩, _⟩, h⟩ := h
    have hu := hu_of hr
    refine ⟨_, pss_one (ps_ret (pe_and (bIsi t.n_isinstance (pa_cons (pv 1) (pa_cons (tyn (n := "str") t.n_str) pa_nil))) (pe_one (pe_cmp (pc_din hu (pv 1) (pe_fld (pv 0) rfl)))))), ?_⟩
    rcases h with ⟨n, rfl, q⟩ | ⟨ty, hty, hk, q⟩
    · refine ⟨_, rfl, _, _, _, _, true, rfl, .ty _, .base (.str _), kit_ty (by decide +kernel), _, rfl, ?_⟩
      refine ⟨_, rfl, _, rfl, a, _, dx, _, _, rfl, e, t.clC, t.aC_held, rfl, dh, _, rfl, din_mp (.inl eh), ?_⟩
      by_cases hn : n ∈ ch.names
      · rw [decide_eq_true hn] at q
        rw [if_pos hn]; exact q
      · rw [decide_eq_false hn] at q
        rw [if_neg hn]; exact q
    · exact ⟨_, rfl, _, _, _, _, false, rfl, .ty _, hty, kit_ty hk, _, rfl, q⟩
def spNames (K : Frg) : Sp := fun vs H Q _ => ∃ (a : Addr) (ch : Ch), vs = [.ref a] ∧ ChartAt K H a ch ∧ ∀ p, H p = none → Q (.ref p) (upd H p (.lst (ch.names.map V.str)))
theorem sc_Names : FnScope ["self"] ["self"] (defScope s_Chart_names) := sc_of
theorem m_Names (t : T K mg) : Met P w K mg base 1 (cC K) "names" (spNames K) := by
  refine met_of t.clC t.d_Chart_names sc_Names (fun _ _ _ _ _ _ us hl => match us, hl with | [_], _ => rfl) (fun vs H Q E h => ?_) (fun f cdv A outer s H vs Q E hr h => ?_)
  · obtain ⟨a, _, rfl, _⟩ := h
    rfl
  · obtain ⟨a, ch, rfl, ⟨dx, dh, dp, dd, dn, e, ⟨bd, eh, hb⟩, _⟩, q⟩ := h
    refine ⟨_, pss_one (ps_ret (ct (call_listD rfl) t.n_list (pa_cons (pe_fld (pv 0) rfl) pa_nil))), ?_⟩
    refine ⟨_, rfl, a, _, dx, _, _, rfl, e, t.clC, t.aC_held, rfl, dh, _, rfl, .inl eh, fun p hp => ?_⟩
    rw [mp_keys]
    exact q p hp
def spOutlets (K : Frg) : Sp := fun vs H Q _ => ∃ (a : Addr) (ch : Ch), vs = [.ref a] ∧ ChartAt K H a ch ∧ ∀ p, H p = none → Q (.ref p) (upd H p (.lst (ch.drains.map V.str)))
theorem sc_Outlets : FnScope ["self"] ["self"] (defScope s_Chart_outlets) := sc_of
theorem m_Outlets (t : T K mg) : Met P w K mg base 1 (cC K) "outlets" (spOutlets K) := by
  refine met_of t.clC t.d_Chart_outlets sc_Outlets (fun _ _ _ _ _ _ us hl => match us, hl with | [_], _ => rfl) (fun vs H Q E h => ?_) (fun f cdv A outer s H vs Q E hr h => ?_)
  · obtain ⟨a, _, rfl, _⟩ := h
    rfl
  · obtain ⟨a, ch, rfl, ⟨dx, dh, dp, dd, dn, e, _, _, hdd, _⟩, q⟩ := h
    refine ⟨_, pss_one (ps_ret (ct call_list_of t.n_list (pa_cons (pe_fld (pv 0) rfl) pa_nil))), ?_⟩
    exact ⟨_, rfl, a, _, dx, _, _, rfl, e, t.clC, t.aC_drains, rfl, dd, _, rfl, .inl (SqL.of hdd), fun p hp => q p hp⟩
def spNb (K : Frg) : Sp := fun vs H Q _ => ∃ (a : Addr) (n : Str) (ch : Ch), vs = [.ref a, .str n] ∧ ChartAt K H a ch ∧ n ∈ ch.names ∧ ∀ p, H p = none → Q (.ref p) (upd H p (.lst ((nbr ch n).map V.str)))
theorem sc_Nb : FnScope ["self", "name"] ["self", "name"] (defScope s_Chart_neighbours) := sc_of
theorem m_Nb (t : T K mg) : Met P w K mg base 2 (cC K) "neighbours" (spNb K) := by
  refine met_of t.clC t.d_Chart_neighbours sc_Nb (fun _ _ _ _ _ _ us hl => match us, hl with | [_, _], _ => rfl) (fun vs H Q E h => ?_) (fun f cdv A outer s H vs Q E hr h => ?_)
  · obtain ⟨a, _, _, rfl, _⟩ := h
    rfl
  · obtain ⟨a, n, ch, rfl, hc, hn, q⟩ := h
    have hu := hu_of hr
    obtain ⟨dx, dh, dp, dd, dn, e, _, _, _, ⟨nl, en, hnl⟩⟩ := id hc
    refine ⟨_, pss_cons (ps_if (pt_cmpR (op_notInC (m_CIn t) (hr.mono (by decide))) (pv 1) (pv 0) rfl) (pss_one ps_never) pss_nil)
      (pss_one (ps_ret (ct call_list_of t.n_list (pa_cons (pe_dget hu (pe_fld (pv 0) rfl) (pv 1) (fun _ _ => rfl)) pa_nil)))), ?_⟩
    refine ⟨_, rfl, _, rfl, a, dx, _, rfl, e, a, _, ch, rfl, hc, .inl ⟨n, rfl, true, by rw [decide_eq_true hn], _, rfl, ?_⟩⟩
    exact ⟨_, rfl, a, _, dx, _, _, rfl, e, t.clC, t.aC_near, rfl, _, rfl, dn, _, rfl, dget_mp (f := fun n => V.ref (nl n)) (.inl en) hn, nl n, _, rfl, .inl (SqL.of (hnl n hn)), fun p hp => q p hp⟩
def spGet (K : Frg) : Sp := fun vs H Q _ => ∃ (a : Addr) (n : Str) (ch : Ch), vs = [.ref a, .str n] ∧ ChartAt K H a ch ∧ n ∈ ch.names ∧ ∀ b, BdAt K H b (ch.low n) (ch.high n) → Q (.ref b) H
theorem sc_Get : FnScope ["self", "name"] ["self", "name"] (defScope s_Chart_getitem) := sc_of
theorem m_Get (t : T K mg) : Met P w K mg base 2 (cC K) "__getitem__" (spGet K) := by
  refine met_of t.clC t.d_Chart_getitem sc_Get (fun _ _ _ _ _ _ us hl => match us, hl with | [_, _], _ => rfl) (fun vs H Q E h => ?_) (fun f cdv A outer s H vs Q E hr h => ?_)
  · obtain ⟨a, _, _, rfl, _⟩ := h
    rfl
  · obtain ⟨a, n, ch, rfl, hc, hn, q⟩ := h
    have hu := hu_of hr
    obtain ⟨dx, dh, dp, dd, dn, e, ⟨bd, eh, hb⟩, _⟩ := id hc
    refine ⟨_, pss_cons (ps_if (pt_cmpR (op_notInC (m_CIn t) (hr.mono (by decide))) (pv 1) (pv 0) rfl) (pss_one ps_never) pss_nil)
      (pss_one (ps_ret (pe_dget hu (pe_fld (pv 0) rfl) (pv 1) (fun _ _ => rfl)))), ?_⟩
    refine ⟨_, rfl, _, rfl, a, dx, _, rfl, e, a, _, ch, rfl, hc, .inl ⟨n, rfl, true, by rw [decide_eq_true hn], _, rfl, ?_⟩⟩
    exact ⟨_, rfl, a, _, dx, _, _, rfl, e, t.clC, t.aC_held, rfl, _, rfl, dh, _, rfl, dget_mp (f := fun n => V.ref (bd n)) (.inl eh) hn, q _ (hb n hn)⟩
def spLen (K : Frg) : Sp := fun vs H Q _ => ∃ (a : Addr) (ch : Ch), vs = [.ref a] ∧ ChartAt K H a ch ∧ Q (.int ch.names.length) H
theorem sc_Len : FnScope ["self"] ["self"] (defScope s_Chart_len) := sc_of
theorem m_Len (t : T K mg) : Met P w K mg base 1 (cC K) "__len__" (spLen K) := by
  refine met_of t.clC t.d_Chart_len sc_Len (fun _ _ _ _ _ _ us hl => match us, hl with | [_], _ => rfl) (fun vs H Q E h => ?_) (fun f cdv A outer s H vs Q E hr h => ?_)
  · obtain ⟨a, _, rfl, _⟩ := h
    rfl
  · obtain ⟨a, ch, rfl, ⟨dx, dh, dp, dd, dn, e, ⟨bd, eh, hb⟩, _⟩, q⟩ := h
    refine ⟨_, pss_one (ps_ret (cb call_lenD t.n_len (pa_cons (pe_fld (pv 0) rfl) pa_nil))), ?_⟩
    refine ⟨_, rfl, a, _, dx, _, _, rfl, e, t.clC, t.aC_held, rfl, dh, _, rfl, eh, ?_⟩
    rw [mp_len]
    exact q
end
end SH
/-! W10 -/
set_option Elab.async false
set_option linter.all false
set_option maxRecDepth 100000
set_option maxHeartbeats 4000000
namespace SH
open PySem PySem.Spec PyProof.Rows L2 LamX
section
variable {P : Program} {w : World} {K : Frg} {mg : Str → Option Value} {base : Heap}
/-- one value anew -/
def setF (f : Str → Int) (n : Str) (i : Int) : Str → Int := fun m => if m = n then i else f m
def spWB (K : Frg) : Sp := fun vs H Q _ => ∃ (a b : Addr) (n : Str) (ch : Ch) (l h : Int), vs = [.ref a, .str n, .ref b] ∧ ChartAt K H a ch ∧ ch.Ok ∧ n ∈ ch.names ∧ BdAt K H b l h ∧ GoodH l ∧ GoodH h ∧ l ≤ h ∧
  ∀ H' a' ch', Up K H H' → ChartAt K H' a' ch' → HeldNew H H' a' → ChOf ch' ch.names (setF ch.low n l) (setF ch.high n h) ch.pairs ch.drains → Q (.ref a') H'
theorem sc_WB : FnScope ["self", "name", "bounds"] ["self", "name", "bounds"] (defScope s_Chart_with_bounds) := sc_of
theorem m_WB (t : T K mg) : Met P w K mg base 6 (cC K) "with_bounds" (spWB K) := by
  refine met_of t.clC t.d_Chart_with_bounds sc_WB (fun _ _ _ _ _ _ us hl => match us, hl with | [_, _, _], _ => rfl) (fun vs H Q E h => ?_) (fun f cdv A outer s H vs Q E hr h => ?_)
  · obtain ⟨a, _, _, _, _, _, rfl, _⟩ := h
    rfl
  · obtain ⟨a, b, n, ch, l, h, rfl, hc, ok, hn, hb, gl, gh, le, q⟩ := h
    have hu := hu_of hr
    obtain ⟨dx, dh, dp, dd, dn, e, ⟨bd, eh, hbd⟩, hps, hdd, _⟩ := id hc
    obtain ⟨db, eb⟩ := id hb
    refine ⟨_, pss_cons (ps_if (pt_cmpR (op_notInC (m_CIn t) (hr.mono (by decide))) (pv 1) (pv 0) rfl) (pss_one ps_never) pss_nil)
      (pss_cons (ps_if (pt_not (pt_val (bIsi t.n_isinstance (pa_cons (pv 2) (pa_cons (gcl t.gB) pa_nil))))) (pss_one ps_never) pss_nil)
      (pss_one (ps_ret (pe_mkC (m_CInit t) t.mkC t.kC t.gC hr (by decide) (pa_cons (pe_star (pe_fld (pv 0) rfl) (pv 1) (pv 2)) (pa_cons (pe_fld (pv 0) rfl) pa_nil)) (pk_cons (pe_fld (pv 0) rfl) pk_nil))))), ?_⟩
    refine ⟨_, rfl, _, rfl, a, dx, _, rfl, e, a, _, ch, rfl, hc, .inl ⟨n, rfl, true, by rw [decide_eq_true hn], _, rfl, ?_⟩⟩
    refine ⟨_, rfl, _, _, _, _, true, rfl, .own _, ty_ins eb t.clB t.oiB, kit_self, _, rfl, fun p hp => ?_⟩
    have s1 : St1 H (upd H p (.dK [])) := ext_new hp
    refine ⟨_, rfl, a, _, dx, _, _, rfl, s1 _ _ e, t.clC, t.aC_held, rfl, dh, _, rfl, upd_same, ne_of_none eh hp, .inl (s1 _ _ eh), by rw [mp_len]; exact line8' (by have := ok.few; omega), fun q' hq' => ?_⟩
    rw [mergeK_nil ok.nd] at hq' ⊢
    rw [upd_upd] at hq' ⊢
    have hpq : p ≠ q' := fun z => by rw [← z, upd_same] at hq'; cases hq'
    have hq0 : H q' = none := by rw [upd_ne (Ne.symm hpq)] at hq'; exact hq'
    refine ⟨_, rfl, _, rfl, .inr n, rfl, (upd_ne hpq).trans upd_same, upd_same, ?_⟩
    generalize hH2 : upd (upd (upd (upd H p (.dK (mp ch.names fun n => .ref (bd n)))) q' (.dK [])) q' (.dK [(Sum.inr n, .ref b)])) p (.dK (putK (mp ch.names fun n => .ref (bd n)) (Sum.inr n) (.ref b))) = H2
    have s2 : St1 H H2 := by
      rw [← hH2]
      exact ((((show St1 H (upd H p _) from ext_new hp).rd hq0).rd hq0).rd hp)
    have e2 : H2 p = some (.dK (mp ch.names fun m => .ref (if m = n then b else bd m))) := by
      rw [← hH2, upd_same, putK_old hn]
      congr 2
      exact mp_congr fun m _ => by by_cases c : m = n <;> simp [c]
    have U2 : Up K H H2 := .all s2
    refine ⟨_, rfl, a, _, dx, _, _, rfl, s2 _ _ e, t.clC, t.aC_pairs, rfl, _, rfl, a, _, dx, _, _, rfl, s2 _ _ e, t.clC, t.aC_drains, rfl, rfl, rfl, fun x dx' hx hdx hne => ?_⟩
    refine ⟨x, dx', p, dp, dd, H2, ch.names, setF ch.low n l, setF ch.high n h, ch.pairs, ch.drains, rfl, rfl, hx, hdx, hne, ⟨_, e2, fun m hm => ?_⟩, hps.up U2, s2 _ _ hdd, ok.nd, ok.few, ok.good, fun m hm => ?_, fun p hp => ?_, ok.pfew, ok.dnd, ok.din, fun H' ch' u' hc' hn' cof => ⟨rfl, q H' x ch' (U2.trans u') hc' ?_ cof⟩⟩
    · show BdAt K H2 (if m = n then b else bd m) (if m = n then l else ch.low m) (if m = n then h else ch.high m)
      by_cases c : m = n
      · rw [if_pos c, if_pos c, if_pos c]; exact hb.up U2
      · rw [if_neg c, if_neg c, if_neg c]; exact (hbd m hm).up U2
    · show GoodH (if m = n then l else ch.low m) ∧ GoodH (if m = n then h else ch.high m) ∧ (if m = n then l else ch.low m) ≤ (if m = n then h else ch.high m)
      by_cases c : m = n
      · rw [if_pos c, if_pos c]; exact ⟨gl, gh, le⟩
      · rw [if_neg c, if_neg c]; exact ok.rng m hm
    · obtain ⟨x1, x2, x3⟩ := ok.pin p hp
      exact ⟨x1, x2, fun z => slt_irr p.1 (by rw [← z] at x3; exact x3)⟩
    · exact fun C dx fs dh e1 e2 kvs e3 => hn' C dx fs dh e1 e2 kvs (s2 _ _ e3)
/-! ### what is asked first -/
def spNeedC (K : Frg) : Sp := fun vs H Q _ => ∃ (a dx : Addr) (fs : List (Str × V)), vs = [.ref a] ∧ H a = some (.ins (cC K) dx fs) ∧ Q .non H
theorem sc_NeedC : FnScope ["chart"] ["chart"] (defScope s_need_chart) := sc_of
theorem c_need_chart (t : T K mg) : Cal P w K mg base 1 "need_chart" (spNeedC K) [] := by
  refine cal_of t.d_need_chart sc_NeedC (fun _ _ _ _ _ _ us hl => match us, hl with | [_], _ => rfl) (fun vs H Q E h => ?_) (fun f cdv A outer s H vs Q E hr h => ?_)
  · obtain ⟨a, _, _, rfl, _⟩ := h
    rfl
  · obtain ⟨a, dx, fs, rfl, e, q⟩ := h
    refine ⟨_, pss_one (ps_if (pt_not (pt_val (bIsi t.n_isinstance (pa_cons (pv 0) (pa_cons (gcl t.gC) pa_nil))))) (pss_one ps_never) pss_nil), ?_⟩
    exact ⟨_, rfl, _, _, _, _, true, rfl, .own _, ty_ins e t.clC t.oiC, kit_self, _, rfl, q⟩
def spNeedL (K : Frg) : Sp := fun vs H Q _ => ∃ (a dx : Addr) (fs : List (Str × V)), vs = [.ref a] ∧ H a = some (.ins (cL K) dx fs) ∧ Q .non H
theorem sc_NeedL : FnScope ["land"] ["land"] (defScope s_need_land) := sc_of
theorem c_need_land (t : T K mg) : Cal P w K mg base 1 "need_land" (spNeedL K) [] := by
  refine cal_of t.d_need_land sc_NeedL (fun _ _ _ _ _ _ us hl => match us, hl with | [_], _ => rfl) (fun vs H Q E h => ?_) (fun f cdv A outer s H vs Q E hr h => ?_)
  · obtain ⟨a, _, _, rfl, _⟩ := h
    rfl
  · obtain ⟨a, dx, fs, rfl, e, q⟩ := h
    refine ⟨_, pss_one (ps_if (pt_not (pt_val (bIsi t.n_isinstance (pa_cons (pv 0) (pa_cons (gcl t.gL) pa_nil))))) (pss_one ps_never) pss_nil), ?_⟩
    exact ⟨_, rfl, _, _, _, _, true, rfl, .own _, ty_ins e t.clL t.oiL, kit_self, _, rfl, q⟩
def spNeedP (K : Frg) : Sp := fun vs H Q _ => ∃ (a : Addr) (n : Str) (ch : Ch), vs = [.ref a, .str n] ∧ ChartAt K H a ch ∧ n ∈ ch.names ∧ Q .non H
theorem sc_NeedP : FnScope ["chart", "name"] ["chart", "name"] (defScope s_need_place) := sc_of
theorem c_need_place (t : T K mg) : Cal P w K mg base 2 "need_place" (spNeedP K) [] := by
  refine cal_of t.d_need_place sc_NeedP (fun _ _ _ _ _ _ us hl => match us, hl with | [_, _], _ => rfl) (fun vs H Q E h => ?_) (fun f cdv A outer s H vs Q E hr h => ?_)
  · obtain ⟨a, _, _, rfl, _⟩ := h
    rfl
  · obtain ⟨a, n, ch, rfl, hc, hn, q⟩ := h
    obtain ⟨dx, dh, dp, dd, dn, e, _⟩ := id hc
    refine ⟨_, pss_one (ps_if (pt_cmpR (op_notInC (m_CIn t) (hr.mono (by decide))) (pv 1) (pv 0) rfl) (pss_one ps_never) pss_nil), ?_⟩
    exact ⟨_, rfl, _, rfl, a, dx, _, rfl, e, a, _, ch, rfl, hc, .inl ⟨n, rfl, true, by rw [decide_eq_true hn], _, rfl, q⟩⟩
def spNeedH : Sp := fun vs H Q _ => ∃ i : Int, vs = [.int i] ∧ GoodH i ∧ Q .non H
theorem sc_NeedH : FnScope ["value"] ["value"] (defScope s_need_height) := sc_of
theorem c_need_height (t : T K mg) : Cal P w K mg base 2 "need_height" spNeedH [] := by
  refine cal_of t.d_need_height sc_NeedH (fun _ _ _ _ _ _ us hl => match us, hl with | [_], _ => rfl) (fun vs H Q E h => ?_) (fun f cdv A outer s H vs Q E hr h => ?_)
  · obtain ⟨a, rfl, _⟩ := h
    rfl
  · obtain ⟨i, rfl, g, q⟩ := h
    refine ⟨_, pss_one (ps_if (pt_not (pt_val (pe_c (c_is_height t) hr (by decide) (pa_cons (pv 0) pa_nil)))) (pss_one ps_never) pss_nil), ?_⟩
    exact ⟨_, rfl, i, rfl, true, congrArg V.bl (good_h g), q⟩
/-! ### bounds by names -/
def spBds (K : Frg) (sel : Ch → Str → Int) : Sp := fun vs H Q _ => ∃ (a : Addr) (ch : Ch), vs = [.ref a] ∧ ChartAt K H a ch ∧ ch.Ok ∧ ∀ H' d, Up K H H' → H d = none → H' d = some (.dK (mp ch.names fun n => .int (sel ch n))) → Q (.ref d) H'
theorem sc_LowB : FnScope ["chart", "name"] ["chart"] (defScope s_low_bounds) := sc_of
theorem sc_HighB : FnScope ["chart", "name"] ["chart"] (defScope s_high_bounds) := sc_of
theorem c_low_bounds (z : T2 K mg) : Cal P w K mg base 4 "low_bounds" (spBds K Ch.low) [] := by
  have t := z.t
  refine cal_of t.d_low_bounds sc_LowB (fun _ _ _ _ _ _ us hl => match us, hl with | [_], _ => rfl) (fun vs H Q E h => ?_) (fun f cdv A outer s H vs Q E hr h => ?_)
  · obtain ⟨a, _, rfl, _⟩ := h
    rfl
  · obtain ⟨a, ch, rfl, hc, ok, q⟩ := h
    have nd := sc_LowB.nd
    obtain ⟨dx, dh, dp, dd, dn, e, _⟩ := id hc
    refine ⟨_, pss_one (ps_ret (dc1 1 rfl nd (pi_list (pe_mt0 (m_Names t) hr (by decide) (pv 0))) (fun _ _ _ _ _ => pv 1) (fun _ _ _ _ _ => pe_fld (pe_getC (m_Get t) z.fiC hr (pv 0) (pv 1)) rfl) (bk ["chart", "name"] s_low_bounds))), ?_⟩
    refine ⟨_, rfl, a, dx, _, rfl, e, rfl, a, ch, rfl, hc, fun p hp => ⟨p, rfl, ⟨_, SqL.of upd_same⟩, fun D hD => dcF (K := K) ok.nd walk_names hD (fun n => .int (ch.low n)) (by have := ok.few; omega) (fun H u => SqL.of (u.at upd_same)) (fun i n x H4 H' Py hn u hy k => ?_) (fun H4 u4 eD => ?_)⟩⟩
    · obtain ⟨rfl, n', hn', rfl⟩ := hy
      obtain rfl : n = n' := Option.some.inj (hn.symm.trans hn')
      have U := (Up.new (K := K) hp).trans u
      refine ⟨rfl, _, rfl, _, rfl, _, rfl, a, dx, _, rfl, U.at e, a, n, ch, rfl, hc.up U, List.mem_of_getElem? hn, fun b ⟨db, eb⟩ => ⟨b, _, db, _, _, rfl, eb, t.clB, t.aB_low, rfl, k _ Up.rfl'⟩⟩
    · refine q _ D ((Up.new hp).trans u4) ?_ eD
      by_cases c : D = p
      · rw [c]; exact hp
      · rw [upd_ne c] at hD; exact hD
theorem c_high_bounds (z : T2 K mg) : Cal P w K mg base 4 "high_bounds" (spBds K Ch.high) [] := by
  have t := z.t
  refine cal_of t.d_high_bounds sc_HighB (fun _ _ _ _ _ _ us hl => match us, hl with | [_], _ => rfl) (fun vs H Q E h => ?_) (fun f cdv A outer s H vs Q E hr h => ?_)
  · obtain ⟨a, _, rfl, _⟩ := h
    rfl
  · obtain ⟨a, ch, rfl, hc, ok, q⟩ := h
    have nd := sc_HighB.nd
    obtain ⟨dx, dh, dp, dd, dn, e, _⟩ := id hc
    refine ⟨_, pss_one (ps_ret (dc1 1 rfl nd (pi_list (pe_mt0 (m_Names t) hr (by decide) (pv 0))) (fun _ _ _ _ _ => pv 1) (fun _ _ _ _ _ => pe_fld (pe_getC (m_Get t) z.fiC hr (pv 0) (pv 1)) rfl) (bk ["chart", "name"] s_high_bounds))), ?_⟩
    refine ⟨_, rfl, a, dx, _, rfl, e, rfl, a, ch, rfl, hc, fun p hp => ⟨p, rfl, ⟨_, SqL.of upd_same⟩, fun D hD => dcF (K := K) ok.nd walk_names hD (fun n => .int (ch.high n)) (by have := ok.few; omega) (fun H u => SqL.of (u.at upd_same)) (fun i n x H4 H' Py hn u hy k => ?_) (fun H4 u4 eD => ?_)⟩⟩
    · obtain ⟨rfl, n', hn', rfl⟩ := hy
      obtain rfl : n = n' := Option.some.inj (hn.symm.trans hn')
      have U := (Up.new (K := K) hp).trans u
      refine ⟨rfl, _, rfl, _, rfl, _, rfl, a, dx, _, rfl, U.at e, a, n, ch, rfl, hc.up U, List.mem_of_getElem? hn, fun b ⟨db, eb⟩ => ⟨b, _, db, _, _, rfl, eb, t.clB, t.aB_high, rfl, k _ Up.rfl'⟩⟩
    · refine q _ D ((Up.new hp).trans u4) ?_ eD
      by_cases c : D = p
      · rw [c]; exact hp
      · rw [upd_ne c] at hD; exact hD
end
end SH
/-! W11 -/
set_option Elab.async false
set_option linter.all false
set_option maxRecDepth 100000
set_option maxHeartbeats 4000000
namespace SH
open PySem PySem.Spec PyProof.Rows L2 LamX
section
variable {P : Program} {w : World} {K : Frg} {mg : Str → Option Value} {base : Heap}
/-- a land of the chart at c -/
def LandC (K : Frg) (H : Hp) (a c : Addr) (ch : Ch) (hs : Str → Int) : Prop := ∃ dx d : Addr, H a = some (.ins (cL K) dx [("chart", .ref c), ("by_name", .ref d)]) ∧ ChartAt K H c ch ∧ H d = some (.dK (mp ch.names fun n => .int (hs n)))
theorem LandC.up {H H1 : Hp} {a c : Addr} {ch : Ch} {hs : Str → Int} (x : LandC K H a c ch hs) (u : Up K H H1) : LandC K H1 a c ch hs := let ⟨dx, d, e, h1, h2⟩ := x; ⟨dx, d, u.at e, h1.up u, u.at h2⟩
theorem LandC.ex {H : Hp} {a c : Addr} {ch : Ch} {hs : Str → Int} (x : LandC K H a c ch hs) : ∃ dx fs, H a = some (.ins (cL K) dx fs) := let ⟨dx, d, e, _⟩ := x; ⟨_, _, e⟩
theorem ChartAt.ex {H : Hp} {c : Addr} {ch : Ch} (x : ChartAt K H c ch) : ∃ dx fs, H c = some (.ins (cC K) dx fs) := let ⟨dx, dh, dp, dd, dn, e, _⟩ := x; ⟨_, _, e⟩
theorem ChartAt.wr {H : Hp} {a c C dx : Addr} {ch : Ch} {fs : List (Str × V)} {o : HO} (x : ChartAt K H c ch) (h : H a = some (.ins C dx fs)) (n1 : c ≠ a) (n2 : C ≠ cB K) : ChartAt K (upd H a o) c ch := by
  obtain ⟨dx', dh, dp, dd, dn, e, ⟨bd, eh, hb⟩, hp, hd, ⟨nl, en, hn⟩⟩ := x
  refine ⟨dx', dh, dp, dd, dn, (upd_ne n1).trans e, ⟨bd, (upd_ne (ne_of eh h (fun z => nomatch z))).trans eh, fun n hn => ?_⟩, hp.wr h, (upd_ne (ne_of hd h (fun z => nomatch z))).trans hd, ⟨nl, (upd_ne (ne_of en h (fun z => nomatch z))).trans en, fun n hn' => (upd_ne (ne_of (hn n hn') h (fun z => nomatch z))).trans (hn n hn')⟩⟩
  obtain ⟨db, eb⟩ := hb n hn
  exact ⟨db, (upd_ne (ne_of eb h (fun z => n2 (by cases z; rfl)))).trans eb⟩
def spLInit (K : Frg) : Sp := fun vs H Q _ => ∃ (a dx c d : Addr) (H0 : Hp) (ch : Ch) (hs : Str → Int), vs = [.ref a, .ref c, .ref d] ∧ H = upd (upd H0 dx (.own a)) a (.ins (cL K) dx []) ∧ H0 a = none ∧ H0 dx = none ∧ dx ≠ a ∧
  ChartAt K H0 c ch ∧ ch.Ok ∧ H0 d = some (.dK (mp ch.names fun n => .int (hs n))) ∧ (∀ n ∈ ch.names, ch.low n ≤ hs n ∧ hs n ≤ ch.high n) ∧ ∀ H', Up K H0 H' → LandC K H' a c ch hs → Q .non H'
theorem sc_LInit : FnScope ["self", "chart", "heights", "name"] ["self", "chart", "heights"] (defScope s_Land_init) := sc_of
theorem m_LInit (z : T2 K mg) : Met P w K mg base 4 (cL K) "__init__" (spLInit K) := by
  have t := z.t
  refine met_of t.clL t.d_Land_init sc_LInit (fun _ _ _ _ _ _ us hl => match us, hl with | [_, _, _], _ => rfl) (fun vs H Q E h => ?_) (fun f cdv A outer s H vs Q E hr h => ?_)
  · obtain ⟨a, _, _, _, _, _, _, rfl, _⟩ := h
    rfl
  · obtain ⟨a, dx, c, d, H0, ch, hs, rfl, rfl, ha, hdx, hne, hc, ok, hd, hin, q⟩ := h
    have nd := sc_LInit.nd
    have hu := hu_of hr
    have few := ok.few
    have s0 : St1 H0 (upd (upd H0 dx (.own a)) a (.ins (cL K) dx [])) := (show St1 H0 (upd H0 dx (.own a)) from ext_new hdx).rd ha
    have U0 : Up K H0 _ := Up.all s0
    have a0 : upd (upd H0 dx (.own a)) a (.ins (cL K) dx []) a = some (.ins (cL K) dx []) := upd_same
    generalize upd (upd H0 dx (.own a)) a (.ins (cL K) dx []) = H1 at s0 U0 a0 ⊢
    have cc := hc.up U0
    obtain ⟨cx, dh, dp, dd, dn, ec, _⟩ := id hc
    have ec1 := s0 _ _ ec
    have hd1 := s0 _ _ hd
    refine ⟨_, pss_cons (ps_expr (pe_c (c_need_chart t) hr (by decide) (pa_cons (pv 1) pa_nil)))
      (pss_cons (ps_if (PW.pt (pw_or (pt_not (pt_val (bIsi t.n_isinstance (pa_cons (pv 2) (pa_cons (tyn (n := "dict") t.n_dict) pa_nil))))) (pw_or1 (pt_cmpR op_ne (cb call_lenD t.n_len (pa_cons (pv 2) pa_nil)) (cb (call_lenC (m_Len t) (hr.mono (by decide))) t.n_len (pa_cons (pv 1) pa_nil)) (nomark _))))) (pss_one ps_never) pss_nil)
      (pss_cons (ps_if (pt_not (pt_val (cb (cr_all rfl) t.n_all (pa_cons (lc1 3 rfl nd (pi_list (pe_mt0 (m_Names t) hr (by decide) (pv 1))) (fun _ _ _ _ _ => pe_cmp (pc_din hu (pv 3) (pv 2))) (bk ["self", "chart", "heights", "name"] s_Land_init)) pa_nil)))) (pss_one ps_never) pss_nil)
      (pss_cons (ps_for PassesOwn.never rfl (pi_list (pe_mt0 (m_Names t) hr (by decide) (pv 1))) (gv 3 nd) (pss_one (ps_if (pt_cmpR (op_notInC (m_BIn t) (hr.mono (by decide))) (pe_dget hu (pv 2) (pv 3) (fun _ _ => rfl)) (pe_getC (m_Get t) z.fiC hr (pv 1) (pv 3)) rfl) (pss_one ps_never) pss_nil)))
      (pss_cons (ps_fld (pv 0) (pv 1) rfl)
      (pss_one (ps_fld (pv 0) (dc1 3 rfl nd (pi_list (pe_mt0 (m_Names t) hr (by decide) (pv 1))) (fun _ _ _ _ _ => pv 3) (fun _ _ _ _ _ => pe_dget hu (pv 2) (pv 3) (fun _ _ => rfl)) (bk ["self", "chart", "heights", "name"] s_Land_init)) rfl)))))), ?_⟩
    refine ⟨_, rfl, c, cx, _, rfl, ec1, ?_⟩
    refine ⟨_, rfl, _, _, _, _, true, rfl, .ty _, .base (.dK hd1), kit_ty (by decide +kernel), _, rfl, ?_⟩
    refine ⟨_, rfl, d, _, rfl, hd1, _, rfl, c, cx, _, rfl, ec1, c, ch, rfl, cc, ch.names.length, rfl, by omega, rfl, false, ?_, ?_⟩
    · rw [mp_len, decide_eq_true rfl]; rfl
    refine ⟨_, rfl, c, cx, _, rfl, ec1, rfl, c, ch, rfl, cc, fun p hp => ⟨p, rfl, ⟨_, SqL.of upd_same⟩, fun D hD => lcF (K := K) walk_names hD (fun _ => some (.bl true)) (by omega) (fun H u => SqL.of (u.at upd_same)) (fun i n x H4 H' Pn Py hn u hy kn ky => ?_) (fun H4 u4 eD => ?_)⟩⟩
    · obtain ⟨rfl, n', hn', rfl⟩ := hy
      obtain rfl : n = n' := Option.some.inj (hn.symm.trans hn')
      have hm := List.mem_of_getElem? hn
      refine ⟨rfl, _, rfl, _, rfl, d, _, rfl, din_mp (.inl (((Up.new (K := K) hp).trans u).at hd1)), ?_⟩
      rw [if_pos hm]
      exact ky _ _ Up.rfl' rfl
    have U4 := (U0.add (o := .lst (ch.names.map V.str)) hp).trans u4
    have a4 := ((Up.new (K := K) (o := .lst (ch.names.map V.str)) hp).trans u4).at a0
    refine ⟨D, ch.names.map fun _ => true, rfl, SqL.of ?_, true, ?_, ?_⟩
    · rw [eD, List.filterMap_eq_map', List.map_map]; rfl
    · rw [show (ch.names.map fun _ => true).all id = true by simp]
    have ec4 := U4.at ec
    have hd4 := U4.at hd
    have cc4 := hc.up U4
    refine ⟨_, rfl, c, cx, _, rfl, ec4, rfl, c, ch, rfl, cc4, fun p hp => ⟨p, rfl, ⟨_, SqL.of upd_same⟩, for_it walk_names (fun i σ H' => ∃ o, σ = [some (.ref a), some (.ref c), some (.ref d), o] ∧ H' = upd H4 p (.lst (ch.names.map V.str))) ⟨_, rfl, rfl⟩ (fun i σ H' _ h => let ⟨_, _, e⟩ := h; SqL.of (by rw [e, upd_same])) (fun i x σ H5 H' hi h hy => ?_) (fun σ H5 h => ?_)⟩⟩
    · obtain ⟨o, rfl, rfl⟩ := h
      obtain ⟨rfl, n, hn, rfl⟩ := hy
      have hm := List.mem_of_getElem? hn
      have U5 := U4.add (o := .lst (ch.names.map V.str)) hp
      obtain ⟨g1, g2, g3⟩ := ok.rng n hm
      obtain ⟨h1, h2⟩ := hin n hm
      refine ⟨_, rfl, _, rfl, d, _, rfl, dget_mp (f := fun n => V.int (hs n)) (.inl (U5.at hd)) hm, _, rfl, _, rfl, c, cx, _, rfl, U5.at ec, c, n, ch, rfl, hc.up U5, hm, fun b ⟨db, eb⟩ => ⟨b, db, _, rfl, eb, b, _, _, hs n, rfl, ⟨db, eb⟩, true, ?_, false, rfl, ?_⟩⟩
      · rw [decide_eq_true ⟨Int.le_trans g1.1 h1, Int.le_trans h2 g2.2, h1, h2⟩]
      · exact ⟨_, rfl, rfl⟩
    obtain ⟨o, rfl, rfl⟩ := h
    have U5 := U4.add (o := .lst (ch.names.map V.str)) hp
    have a5 := (Up.new (K := K) (o := .lst (ch.names.map V.str)) hp).at a4
    refine ⟨_, rfl, _, rfl, a, _, dx, _, rfl, a5, t.clL, t.aL_chart, by decide, ?_⟩
    have U6 := U5.wr (o := .ins (cL K) dx (putF "chart" (.ref c) [])) ha a5 trivial
    refine ⟨_, rfl, c, cx, _, rfl, U6.at ec, rfl, c, ch, rfl, hc.up U6, fun p2 hp2 => ⟨p2, rfl, ⟨_, SqL.of upd_same⟩, fun D2 hD2 => dcF (K := K) ok.nd walk_names hD2 (fun n => .int (hs n)) (by omega) (fun H u => SqL.of (u.at upd_same)) (fun i n x H4 H' Py hn u hy k => ?_) (fun H7 u7 eD2 => ?_)⟩⟩
    · obtain ⟨rfl, n', hn', rfl⟩ := hy
      obtain rfl : n = n' := Option.some.inj (hn.symm.trans hn')
      have hm := List.mem_of_getElem? hn
      exact ⟨rfl, _, rfl, _, rfl, _, rfl, d, _, rfl, dget_mp (f := fun n => V.int (hs n)) (.inl (((U6.add hp2).trans u).at hd)) hm, k _ Up.rfl'⟩
    · have a7 := ((Up.new (K := K) (o := .lst (ch.names.map V.str)) hp2).trans u7).at upd_same
      refine ⟨_, rfl, a, _, dx, _, rfl, a7, t.clL, t.aL_by_name, (by show (1 : Nat) < 1000; decide), ?_⟩
      have U8 := ((U6.add hp2).trans u7).wr (o := .ins (cL K) dx (putF "by_name" (.ref D2) (putF "chart" (.ref c) []))) ha a7 trivial
      exact q _ U8 ⟨dx, D2, upd_same, hc.up U8, (upd_ne (ne_of eD2 a7 (fun z => nomatch z))).trans eD2⟩
end
end SH
/-! W12 -/
set_option Elab.async false
set_option linter.all false
set_option maxRecDepth 100000
set_option maxHeartbeats 4000000
namespace SH
open PySem PySem.Spec PyProof.Rows L2 LamX
/-! ### data of texts -/
theorem canLayAll_map {α : Type} {f : α → PyData} : ∀ {l : List α}, (∀ x ∈ l, (f x).canLay0 = true) → PyData.canLayAll0 (l.map f) = true
  | [], _ => by rw [List.map_nil, PyData.canLayAll0]
  | x :: l, h => by
    rw [List.map_cons, PyData.canLayAll0, h x List.mem_cons_self, canLayAll_map fun y hy => h y (List.mem_cons_of_mem _ hy)]; rfl
theorem depthAll_map {α : Type} {f : α → PyData} {k : Nat} : ∀ {l : List α}, (∀ x ∈ l, (f x).depth ≤ k) → PyData.depthAll (l.map f) ≤ k
  | [], _ => by rw [List.map_nil, PyData.depthAll]; exact Nat.zero_le _
  | x :: l, h => by
    rw [List.map_cons, PyData.depthAll]
    exact Nat.max_le.mpr ⟨h x List.mem_cons_self, depthAll_map fun y hy => h y (List.mem_cons_of_mem _ hy)⟩
abbrev dS (ns : List Str) : PyData := .list (ns.map .str)
abbrev dPr (p : Pr) : PyData := .tuple [.str p.1, .str p.2]
abbrev dP (ps : List Pr) : PyData := .list (ps.map dPr)
def Ascii (n : Str) : Prop := ∀ c ∈ n.cps.toList, c < 128
theorem GoodN.ascii {n : Str} (h : GoodN n) : Ascii n := fun c hc => by have := h.2.2 c hc; omega
theorem canLay_str {n : Str} (h : Ascii n) : (PyData.str n).canLay0 = true := by
  rw [PyData.canLay0]
  unfold PyData.strOk
  rw [← Array.all_toList, List.all_eq_true]
  exact fun c hc => decide_eq_true (by have := h c hc; omega)
theorem canLay_dS {ns : List Str} (h : ∀ n ∈ ns, Ascii n) : (dS ns).canLay0 = true := by
  rw [PyData.canLay0]; exact canLayAll_map fun n hn => canLay_str (h n hn)
theorem depth_dS (ns : List Str) : (dS ns).depth ≤ 1 := by
  rw [PyData.depth]; exact Nat.succ_le_succ (depthAll_map fun n _ => by rw [PyData.depth]; exact Nat.le_refl _)
theorem shaped_dS {ns : List Str} (h : ∀ n ∈ ns, Ascii n) : SeqAt.shaped (dS ns) = true := by
  unfold SeqAt.shaped; rw [canLay_dS h, decide_eq_true (Nat.le_trans (depth_dS ns) (by decide))]; rfl
theorem canLay_dPr {p : Pr} (h : Ascii p.1 ∧ Ascii p.2) : (dPr p).canLay0 = true := by
  rw [PyData.canLay0, PyData.canLayAll0, PyData.canLayAll0, PyData.canLayAll0, canLay_str h.1, canLay_str h.2]; rfl
theorem canLay_dP {ps : List Pr} (h : ∀ p ∈ ps, Ascii p.1 ∧ Ascii p.2) : (dP ps).canLay0 = true := by
  rw [PyData.canLay0]; exact canLayAll_map fun p hp => canLay_dPr (h p hp)
theorem depth_dP (ps : List Pr) : (dP ps).depth ≤ 2 := by
  rw [PyData.depth]
  refine Nat.succ_le_succ (depthAll_map fun p _ => ?_)
  rw [PyData.depth, PyData.depthAll, PyData.depthAll, PyData.depthAll, PyData.depth, PyData.depth]; decide
theorem shaped_dP {ps : List Pr} (h : ∀ p ∈ ps, Ascii p.1 ∧ Ascii p.2) : SeqAt.shaped (dP ps) = true := by
  unfold SeqAt.shaped; rw [canLay_dP h, decide_eq_true (Nat.le_trans (depth_dP ps) (by decide))]; rfl
section
variable {P : Program} {w : World} {K : Frg} {mg : Str → Option Value} {base : Heap}
theorem dpAll_strs {H : Hp} : ∀ ns : List Str, DpAll K H (ns.map V.str) (ns.map PyData.str)
  | [] => .nil
  | n :: ns => .cons (.str n) (dpAll_strs ns)
theorem dp_strs {H : Hp} {a : Addr} {ns : List Str} (h : H a = some (.lst (ns.map V.str))) : Dp K H (.ref a) (dS ns) := .lst (SqL.of h) (dpAll_strs ns)
theorem dpAll_pairs {H : Hp} : ∀ L : List (Addr × Pr), (∀ q ∈ L, H q.1 = some (.tup [.str q.2.1, .str q.2.2])) → DpAll K H (L.map fun q => V.ref q.1) ((L.map (·.2)).map dPr)
  | [], _ => .nil
  | q :: L, h => .cons (.tup (SqT.of (h q List.mem_cons_self)) (.cons (.str _) (.cons (.str _) .nil))) (dpAll_pairs L fun r hr => h r (List.mem_cons_of_mem _ hr))
theorem dp_pairs {H : Hp} {a : Addr} {ps : List Pr} (h : PairsAt H a ps) : Dp K H (.ref a) (dP ps) := by
  obtain ⟨L, e, r, rfl⟩ := h
  exact .lst (SqL.of e) (dpAll_pairs L r)
/-! ### lands -/
def spLCall (K : Frg) : Sp := fun vs H Q _ => ∃ (a c : Addr) (n : Str) (ch : Ch) (hs : Str → Int), vs = [.ref a, .str n] ∧ LandC K H a c ch hs ∧ n ∈ ch.names ∧ Q (.int (hs n)) H
theorem sc_LCall : FnScope ["self", "name"] ["self", "name"] (defScope s_Land_call) := sc_of
theorem m_LCall (t : T K mg) : Met P w K mg base 3 (cL K) "__call__" (spLCall K) := by
  refine met_of t.clL t.d_Land_call sc_LCall (fun _ _ _ _ _ _ us hl => match us, hl with | [_, _], _ => rfl) (fun vs H Q E h => ?_) (fun f cdv A outer s H vs Q E hr h => ?_)
  · obtain ⟨a, _, _, _, _, rfl, _⟩ := h
    rfl
  · obtain ⟨a, c, n, ch, hs, rfl, ⟨dx, d, e, hc, hd⟩, hn, q⟩ := h
    have hu := hu_of hr
    refine ⟨_, pss_cons (ps_expr (pe_c (c_need_place t) hr (by decide) (pa_cons (pe_fld (pv 0) rfl) (pa_cons (pv 1) pa_nil)))) (pss_one (ps_ret (pe_dget hu (pe_fld (pv 0) rfl) (pv 1) (fun _ _ => rfl)))), ?_⟩
    refine ⟨_, rfl, a, _, dx, _, _, rfl, e, t.clL, t.aL_chart, rfl, _, rfl, c, n, ch, rfl, hc, hn, ?_⟩
    exact ⟨_, rfl, a, _, dx, _, _, rfl, e, t.clL, t.aL_by_name, rfl, _, rfl, d, _, rfl, dget_mp (f := fun n => V.int (hs n)) (.inl hd) hn, q⟩
def spLHts (K : Frg) : Sp := fun vs H Q _ => ∃ (a c : Addr) (ch : Ch) (hs : Str → Int), vs = [.ref a] ∧ LandC K H a c ch hs ∧ ∀ p, H p = none → Q (.ref p) (upd H p (.dK (mp ch.names fun n => .int (hs n))))
theorem sc_LHts : FnScope ["self"] ["self"] (defScope s_Land_heights) := sc_of
theorem m_LHts (t : T K mg) : Met P w K mg base 1 (cL K) "heights" (spLHts K) := by
  refine met_of t.clL t.d_Land_heights sc_LHts (fun _ _ _ _ _ _ us hl => match us, hl with | [_], _ => rfl) (fun vs H Q E h => ?_) (fun f cdv A outer s H vs Q E hr h => ?_)
  · obtain ⟨a, _, _, _, rfl, _⟩ := h
    rfl
  · obtain ⟨a, c, ch, hs, rfl, ⟨dx, d, e, hc, hd⟩, q⟩ := h
    refine ⟨_, pss_one (ps_ret (ct call_dictD t.n_dict (pa_cons (pe_fld (pv 0) rfl) pa_nil))), ?_⟩
    exact ⟨_, rfl, a, _, dx, _, _, rfl, e, t.clL, t.aL_by_name, rfl, d, _, rfl, .inl hd, fun p hp => q p hp⟩
/-! ### == -/
theorem mon_REqB : ∀ a b (H H' : Hp), Ext H H' → REqB K a b H → REqB K a b H' := fun a b H H' e ⟨l, h, ⟨dx, e1⟩, ⟨dy, e2⟩⟩ => ⟨l, h, ⟨dx, e _ _ e1⟩, ⟨dy, e _ _ e2⟩⟩
/-- two charts that are alike, their dicts two -/
def REqC (K : Frg) (a b : Addr) (H : Hp) : Prop := ∃ (ch : Ch) (dx dh dp dd dn dx' dh' dp' dd' dn' : Addr), H a = some (.ins (cC K) dx [("held", .ref dh), ("pairs", .ref dp), ("drains", .ref dd), ("near", .ref dn)]) ∧ H b = some (.ins (cC K) dx' [("held", .ref dh'), ("pairs", .ref dp'), ("drains", .ref dd'), ("near", .ref dn')]) ∧
  HeldAt K H dh ch ∧ HeldAt K H dh' ch ∧ PairsAt H dp ch.pairs ∧ PairsAt H dp' ch.pairs ∧ H dd = some (.lst (ch.drains.map V.str)) ∧ H dd' = some (.lst (ch.drains.map V.str)) ∧ dh ≠ dh' ∧ ch.Ok
theorem mon_REqC : ∀ a b (H H' : Hp), Ext H H' → REqC K a b H → REqC K a b H' := fun a b H H' e h => by
  obtain ⟨ch, dx, dh, dp, dd, dn, dx', dh', dp', dd', dn', e1, e2, h1, h2, h3, h4, h5, h6, h7, h8⟩ := h
  have U : Up K H H' := Up.all e
  exact ⟨ch, dx, dh, dp, dd, dn, dx', dh', dp', dd', dn', e _ _ e1, e _ _ e2, HeldAt.up h1 U, HeldAt.up h2 U, PairsAt.up h3 U, PairsAt.up h4 U, e _ _ h5, e _ _ h6, h7, h8⟩
theorem rc_ins {X : Cx} {k : Nat} {C : Addr} {R : Addr → Addr → Hp → Prop} (c : Met X.prog X.w X.K X.mg X.base k C "__eq__" (spEq R)) : RcG X k (DIns C R) := by
  obtain ⟨f, fd, ps, hc, hm, F, bd⟩ := c.ex
  exact rcG_ins F hm.at_ hm.fn bd pass0
theorem eq_ins {X : Cx} {k : Nat} {C : Addr} {R : Addr → Addr → Hp → Prop} (c : Met X.prog X.w X.K X.mg X.base k C "__eq__" (spEq R)) : EqG X k (DIns C R) := (rc_ins c).eqG fun _ _ _ d => let ⟨a, b, _, _, _, _, hx, hy, _⟩ := d; ⟨a, b, hx, hy⟩
theorem sc_CEq : FnScope ["self", "other"] ["self", "other"] (defScope s_Chart_eq) := sc_of
theorem m_CEq (t : T K mg) : Met P w K mg base 3 (cC K) "__eq__" (spEq (REqC K)) := by
  refine met_of t.clC t.d_Chart_eq sc_CEq (fun _ _ _ _ _ _ us hl => match us, hl with | [_, _], _ => rfl) (fun vs H Q E h => ?_) (fun f cdv A outer s H vs Q E hr h => ?_)
  · obtain ⟨a, b, rfl, _⟩ := h
    rfl
  · obtain ⟨a, b, rfl, ⟨ch, dx, dh, dp, dd, dn, dx', dh', dp', dd', dn', e1, e2, ⟨bd, h1, hb⟩, ⟨bd', h2, hb'⟩, h3, h4, h5, h6, h7, ok⟩, q⟩ := h
    have h64 := hr.units
    refine ⟨_, pss_one (ps_ret (pe_and (bIsi t.n_isinstance (pa_cons (pv 1) (pa_cons (gcl t.gC) pa_nil)))
      (pe_and (pe_cmpR (op_eqDG (mon_ins mon_REqB) (eq_ins (m_BEq t)) hr) (pe_fld (pv 0) rfl) (pe_fld (pv 1) rfl) (nomark _))
      (pe_and (pe_cmpR (op_eqD h64) (pe_fld (pv 0) rfl) (pe_fld (pv 1) rfl) (nomark _)) (pe_one (pe_cmpR (op_eqD h64) (pe_fld (pv 0) rfl) (pe_fld (pv 1) rfl) (nomark _))))))), ?_⟩
    refine ⟨_, rfl, _, _, _, _, true, rfl, .own _, ty_ins e2 t.clC t.oiC, kit_self, _, rfl, ?_⟩
    refine ⟨_, rfl, a, _, dx, _, _, rfl, e1, t.clC, t.aC_held, rfl, _, rfl, b, _, dx', _, _, rfl, e2, t.clC, t.aC_held, rfl, dh, dh', _, _, rfl, rfl, h7, h1, h2, by rw [mp_len, mp_len], fun oa ob k v hk => ?_, fun H' x => ⟨true, rfl, ?_⟩⟩
    · obtain ⟨i, hi⟩ := List.mem_iff_getElem?.mp hk
      obtain ⟨n, hn, rfl, rfl⟩ := mp_get hi
      have hm := List.mem_of_getElem? hn
      obtain ⟨db, eb⟩ := hb n hm
      obtain ⟨db', eb'⟩ := hb' n hm
      have lk : ∀ x C dy fs, H x = some (.ins C dy fs) → upd (upd H dh (.frz oa (.dK (mp ch.names fun n => .ref (bd n))))) dh' (.frz ob (.dK (mp ch.names fun n => .ref (bd' n)))) x = some (.ins C dy fs) := fun x C dy fs hx => by
        rw [upd_ne (ne_of hx h2 (fun z => nomatch z)), upd_ne (ne_of hx h1 (fun z => nomatch z))]; exact hx
      exact ⟨_, valV_in hm, bd n, bd' n, db, db', _, _, rfl, rfl, lk _ _ _ _ eb, lk _ _ _ _ eb', ch.low n, ch.high n, ⟨db, lk _ _ _ _ eb⟩, ⟨db', lk _ _ _ _ eb'⟩⟩
    · have U : Up K H H' := Up.all x
      have as := fun p hp => (⟨(ok.good _ (ok.pin p hp).1).ascii, (ok.good _ (ok.pin p hp).2.1).ascii⟩ : Ascii p.1 ∧ Ascii p.2)
      have as2 := fun d hd => (ok.good _ (ok.din d hd)).ascii
      refine ⟨_, rfl, a, _, dx, _, _, rfl, x _ _ e1, t.clC, t.aC_pairs, rfl, _, rfl, b, _, dx', _, _, rfl, x _ _ e2, t.clC, t.aC_pairs, rfl, dP ch.pairs, dP ch.pairs, dp_pairs (h3.up U), dp_pairs (h4.up U), shaped_dP as, shaped_dP as, true, ?_, ?_⟩
      · rw [SeqAt.eqv_refl _ (canLay_dP as)]
      · refine ⟨_, rfl, a, _, dx, _, _, rfl, x _ _ e1, t.clC, t.aC_drains, rfl, _, rfl, b, _, dx', _, _, rfl, x _ _ e2, t.clC, t.aC_drains, rfl, dS ch.drains, dS ch.drains, dp_strs (x _ _ h5), dp_strs (x _ _ h6), shaped_dS as2, shaped_dS as2, ?_⟩
        rw [SeqAt.eqv_refl _ (canLay_dS as2)]
        exact q _ x
/-- two lands that are alike -/
def REqL (K : Frg) (a b : Addr) (H : Hp) : Prop := ∃ (ch : Ch) (hs : Str → Int) (dx c d dx' c' d' : Addr), H a = some (.ins (cL K) dx [("chart", .ref c), ("by_name", .ref d)]) ∧ H b = some (.ins (cL K) dx' [("chart", .ref c'), ("by_name", .ref d')]) ∧ REqC K c c' H ∧
  H d = some (.dK (mp ch.names fun n => .int (hs n))) ∧ H d' = some (.dK (mp ch.names fun n => .int (hs n)))
theorem sc_LEq : FnScope ["self", "other"] ["self", "other"] (defScope s_Land_eq) := sc_of
theorem m_LEq (t : T K mg) : Met P w K mg base 4 (cL K) "__eq__" (spEq (REqL K)) := by
  refine met_of t.clL t.d_Land_eq sc_LEq (fun _ _ _ _ _ _ us hl => match us, hl with | [_, _], _ => rfl) (fun vs H Q E h => ?_) (fun f cdv A outer s H vs Q E hr h => ?_)
  · obtain ⟨a, b, rfl, _⟩ := h
    rfl
  · obtain ⟨a, b, rfl, ⟨ch, hs, dx, c, d, dx', c', d', e1, e2, hc, hd, hd'⟩, q⟩ := h
    have hu := hu_of hr
    obtain ⟨_, cx, _, _, _, _, cx', _, _, _, _, ec, ec', _⟩ := id hc
    refine ⟨_, pss_one (ps_ret (pe_and (bIsi t.n_isinstance (pa_cons (pv 1) (pa_cons (gcl t.gL) pa_nil)))
      (pe_and (pe_cmpR (op_eqG (rc_ins (m_CEq t)) hr) (pe_fld (pv 0) rfl) (pe_fld (pv 1) rfl) (nomark _)) (pe_one (pe_cmpR (op_eq_dictA hr.units0) (pe_fld (pv 0) rfl) (pe_fld (pv 1) rfl) (nomark _)))))), ?_⟩
    refine ⟨_, rfl, _, _, _, _, true, rfl, .own _, ty_ins e2 t.clL t.oiL, kit_self, _, rfl, ?_⟩
    refine ⟨_, rfl, a, _, dx, _, _, rfl, e1, t.clL, t.aL_chart, rfl, _, rfl, b, _, dx', _, _, rfl, e2, t.clL, t.aL_chart, rfl, ⟨c, c', cx, cx', _, _, rfl, rfl, ec, ec', hc⟩, fun H' x => ⟨true, rfl, ?_⟩⟩
    refine ⟨_, rfl, a, _, dx, _, _, rfl, x _ _ e1, t.clL, t.aL_by_name, rfl, _, rfl, b, _, dx', _, _, rfl, x _ _ e2, t.clL, t.aL_by_name, rfl, d, d', _, _, rfl, rfl, x _ _ hd, x _ _ hd', rfl, fun p hp => ?_, q _ x⟩
    obtain ⟨i, hi⟩ := List.mem_iff_getElem?.mp hp
    obtain ⟨n, hn, h1, h2⟩ := mp_get (k := p.1) (v := p.2) hi
    rw [h1, h2]
    exact ⟨valV_in (f := fun n => V.int (hs n)) (List.mem_of_getElem? hn), rfl⟩
end
end SH
/-! W13 -/
set_option Elab.async false
set_option linter.all false
set_option maxRecDepth 100000
set_option maxHeartbeats 4000000
namespace SH
open PySem PySem.Spec PyProof.Rows L2 LamX
abbrev fS (K : Frg) : Addr := He.fAd K ("spread", none)
abbrev fR (K : Frg) : Addr := He.fAd K ("_law_refusals_right", none)
/-- the tables' code objects -/
structure TBs (K : Frg) (mg : Str → Option Value) (base : Heap) : Prop where
  tS : TabB base mg (He.cT K (("spread" : Str), none)).1 (tS K)
  tR : TabB base mg (He.cT K (("_law_refusals_right" : Str), none)).1 (tR K)
structure T3 (K : Frg) (mg : Str → Option Value) : Prop where
  z : T2 K mg
  ne : tS K ≠ tR K
  sp : ∃ fd, FunD K "spread" "spread" (defArgs s_spread) (defBody s_spread) (defScope s_spread) [.ref (He.dflAt ("spread", none) 0 K)] [] (fS K) fd
  spM : mg "spread" = some (.ref (fS K))
  rr : ∃ fd, FunD K "_law_refusals_right" "_law_refusals_right" (defArgs s_law_refusals_right) (defBody s_law_refusals_right) (defScope s_law_refusals_right) [] [] (fR K) fd
  rrM : mg "_law_refusals_right" = some (.ref (fR K))
section
variable {P : Program} {w : World} {K : Frg} {mg : Str → Option Value} {base : Heap}
/-- the rule for a def that makes lambdas: its code object known -/
theorem fn_ofT {x : Str} {st : Stmt} {dvs : List V} {fd : FuncData} {N ps : List Str} {k : Nat} {sp : Sp} (F : FunD K x x (defArgs st) (defBody st) (defScope st) dvs [] (He.fAd K (x, none)) fd) (S : FnScope N ps (defScope st)) (len : ∀ vs H Q E, sp vs H Q E → vs.length = ps.length)
    (hb : ∀ (A : Around) (outer : List Env) (s : Shared) (H : Hp) (vs : List V) (Q : VK) (E : XK), Room k (A.deeper (envOfC x (defScope st) s.heap.objs.size (He.fAd K (x, none)) (.ref (He.cT K (x, none)).1))) → sp vs H Q E →
      ∃ t, PSs (cxOf CX0 P w K mg base N x (defScope st) (He.fAd K (x, none)) (.ref (He.cT K (x, none)).1) A outer s H E).nox (defBody st) t ∧ t { nx := fun _ H' => Q .non H', rt := Q } (L2.start N vs) H) : FnOk P w K mg base CX0 (k + 1) (He.fAd K (x, none)) fd ps sp := by
  obtain ⟨oc, od, dV, kV, doc, pm, an, cdv, ct, osl, rfl, lk, hcd, _, _⟩ := F.ex
  obtain ⟨c, rfl⟩ := He.codeIn_ref hcd
  have e : He.codeOf K (x, none) = c := He.codeOf_eq lk rfl
  refine fn_of lk hcd S len fun A outer s H vs Q E hr hsp => ?_
  have e2 : (He.cT K (x, none)).1 = c := e
  rw [← e2] at hr ⊢
  obtain ⟨t, h, q⟩ := hb A outer s H vs Q E hr hsp
  exact ⟨t, h.nox, q⟩
end
section
variable {X : Cx}
/-- d != {} -/
def rNeD0 : R2 := fun x y H Q => ∃ a b ks, x = .ref a ∧ y = .ref b ∧ H a = some (.dK ks) ∧ H b = some (.dK []) ∧ Q (.bl (!ks.isEmpty)) H
theorem op_ne_dict0 (hu : X.A.units < cLine) : OpR X (compareOp .NotEq) rNeD0 := by
  intro pins s σ H x y v u Q I rx ry h
  obtain ⟨a, b, ks, rfl, rfl, ea, eb, q⟩ := h
  obtain rfl : v = Value.ref a := rx
  obtain rfl : u = Value.ref b := ry
  obtain ⟨_, ya, va, ra, da⟩ := (show ObjOk X.prog X.w H s.heap a (.dK ks) from I.hok a _ ea)
  obtain ⟨_, yb, vb, rb, db⟩ := (show ObjOk X.prog X.w H s.heap b (.dK []) from I.hok b _ eb)
  have l1 := ra.length
  have l2 := rb.length
  refine PySem.W.keq_ne (knd := mixKind X.prog X.w) (r := true) ya yb da db hu (fun hl => hits_all rb ra fun p hp => ?_) (fin_bl I q ?_)
  · have : ks.length = 0 := by rw [l1, hl, ← l2]; rfl
    rw [List.length_eq_zero_iff.mp this] at hp
    cases hp
  · cases ks with
    | nil => rw [← l1, ← l2]; rfl
    | cons k r => rw [← l1, ← l2]; rfl
end
theorem putK_mp {f : Str → V} {ks : List Str} {n : Str} {v : V} : putK (mp ks f) (Sum.inr n) v = mp (if n ∈ ks then ks else ks ++ [n]) (fun m => if m = n then v else f m) := by
  by_cases h : n ∈ ks
  · rw [putK_old h, if_pos h]
  · rw [putK_new h, if_neg h, mp_snoc, if_pos rfl]
    congr 1
    exact mp_congr fun m hm => (if_neg (fun (z : m = n) => h (z ▸ hm))).symm
theorem dropK_mp {f : Str → V} {ks : List Str} {n : Str} : dropK (mp ks f) (Sum.inr n) = mp (ks.filter fun m => decide (m ≠ n)) f := by
  unfold dropK mp
  rw [List.filter_map]
  congr 1
  refine List.filter_congr fun m _ => ?_
  show decide ((Sum.inr m : Key) ≠ Sum.inr n) = decide (m ≠ n)
  exact decide_eq_decide.mpr ⟨fun h z => h (by rw [z]), fun h z => h (Sum.inr.inj z)⟩
def oV : Option Str → V
  | none => .non
  | some q => .str q
/-- the search's state by lists -/
structure Rel (names : List Str) (s : SS Str) (ks ws : List Str) (L : Str → Int) (B : Str → Option Str) : Prop where
  knd : ks.Nodup
  wnd : ws.Nodup
  lev : ∀ n, s.lev n = if n ∈ ks then some (L n) else none
  bef : ∀ n, s.bef n = if n ∈ ks then some (B n) else none
  wt : ∀ n, s.wt n = decide (n ∈ ws)
  sub : ∀ n ∈ ws, n ∈ ks
  kin : ∀ n ∈ ks, n ∈ names
section
variable {names ks ws : List Str} {s : SS Str} {L : Str → Int} {B : Str → Option Str}
theorem Rel.start {val : Str → Int} {st : Str} (h : st ∈ names) : Rel names (SH.start val st) [st] [st] val (fun _ => none) := by
  have key : ∀ {β : Type} (v d : β) (n : Str), fput (fun _ => d) st v n = if n ∈ [st] then v else d := fun v d n => by
    unfold fput
    by_cases c : n = st
    · rw [if_pos c, if_pos (by rw [c]; exact List.mem_singleton_self _)]
    · rw [if_neg c, if_neg (fun z => c (List.mem_singleton.mp z))]
  refine ⟨List.nodup_cons.mpr ⟨by simp, List.nodup_nil⟩, List.nodup_cons.mpr ⟨by simp, List.nodup_nil⟩, fun n => ?_, fun n => key _ _ n, fun n => ?_, fun n h => h, fun n h' => by rw [List.mem_singleton.mp h']; exact h⟩
  · rw [show (SH.start val st).lev n = fput (fun _ => none) st (some (val st)) n from rfl, key]
    by_cases c : n ∈ [st]
    · rw [if_pos c, if_pos c, List.mem_singleton.mp c]
    · rw [if_neg c, if_neg c]
  · rw [show (SH.start val st).wt n = fput (fun _ => false) st true n from rfl, key]
    by_cases c : n ∈ [st]
    · rw [if_pos c, decide_eq_true c]
    · rw [if_neg c, decide_eq_false c]
theorem Rel.pop (r : Rel names s ks ws L B) (x : Str) : Rel names (popped s x) ks (ws.filter fun m => decide (m ≠ x)) L B := by
  refine ⟨r.knd, r.wnd.filter _, r.lev, r.bef, fun n => ?_, fun n h => r.sub n (List.mem_filter.mp h).1, r.kin⟩
  show fput s.wt x false n = _
  by_cases c : n = x
  · rw [c, fput_same]; exact (decide_eq_false (fun z => by simpa using (List.mem_filter.mp z).2)).symm
  · rw [fput_ne c, r.wt]
    exact decide_eq_decide.mpr ⟨fun h => List.mem_filter.mpr ⟨h, decide_eq_true c⟩, fun h => (List.mem_filter.mp h).1⟩
theorem nodup_put {l : List Str} {o : Str} (h : l.Nodup) : (if o ∈ l then l else l ++ [o]).Nodup := by
  by_cases c : o ∈ l
  · rw [if_pos c]; exact h
  · rw [if_neg c]
    exact List.nodup_append.mpr ⟨h, List.nodup_cons.mpr ⟨by simp, List.nodup_nil⟩, fun a ha b hb z => c (by rw [List.mem_singleton.mp hb] at z; rw [← z]; exact ha)⟩
theorem mem_put {l : List Str} {o n : Str} : n ∈ (if o ∈ l then l else l ++ [o]) ↔ n = o ∨ n ∈ l := by
  by_cases c : o ∈ l
  · rw [if_pos c]; exact ⟨.inr, fun z => z.elim (fun e => by rw [e]; exact c) id⟩
  · rw [if_neg c, List.mem_append, List.mem_singleton]; exact or_comm
theorem Rel.put (r : Rel names s ks ws L B) {o x : Str} {v : Int} (ho : o ∈ names) :
    Rel names ⟨fput s.lev o (some v), fput s.bef o (some (some x)), fput s.wt o true⟩ (if o ∈ ks then ks else ks ++ [o]) (if o ∈ ws then ws else ws ++ [o]) (fun m => if m = o then v else L m) (fun m => if m = o then some x else B m) := by
  refine ⟨nodup_put r.knd, nodup_put r.wnd, fun n => ?_, fun n => ?_, fun n => ?_, fun n h => ?_, fun n h => ?_⟩
  · show fput s.lev o (some v) n = _
    by_cases c : n = o
    · rw [c, fput_same, if_pos (mem_put.mpr (.inl rfl)), if_pos rfl]
    · rw [fput_ne c, r.lev, if_neg c]
      by_cases d : n ∈ ks
      · rw [if_pos d, if_pos (mem_put.mpr (.inr d))]
      · rw [if_neg d, if_neg (fun z => (mem_put.mp z).elim c d)]
  · show fput s.bef o (some (some x)) n = _
    by_cases c : n = o
    · rw [c, fput_same, if_pos (mem_put.mpr (.inl rfl)), if_pos rfl]
    · rw [fput_ne c, r.bef, if_neg c]
      by_cases d : n ∈ ks
      · rw [if_pos d, if_pos (mem_put.mpr (.inr d))]
      · rw [if_neg d, if_neg (fun z => (mem_put.mp z).elim c d)]
  · show fput s.wt o true n = _
    by_cases c : n = o
    · rw [c, fput_same]; exact (decide_eq_true (mem_put.mpr (.inl rfl))).symm
    · rw [fput_ne c, r.wt]
      exact decide_eq_decide.mpr ⟨fun h => mem_put.mpr (.inr h), fun h => (mem_put.mp h).elim (fun z => absurd z c) id⟩
  · rcases mem_put.mp h with z | z
    · exact mem_put.mpr (.inl z)
    · exact mem_put.mpr (.inr (r.sub n z))
  · rcases mem_put.mp h with z | z
    · rw [z]; exact ho
    · exact r.kin n z
theorem Rel.some (r : Rel names s ks ws L B) {n : Str} (h : n ∈ ks) : s.lev n = some (L n) := by rw [r.lev, if_pos h]
theorem Rel.none (r : Rel names s ks ws L B) {n : Str} (h : n ∉ ks) : s.lev n = none := by rw [r.lev, if_neg h]
theorem Rel.better (r : Rel names s ks ws L B) {val : Str → Int} {l : Int} {o : Str} : SH.better val l s o = if o ∈ ks then decide (mx l (val o) < L o) else true := by
  unfold SH.better
  by_cases c : o ∈ ks
  · rw [r.some c, if_pos c]
  · rw [r.none c, if_neg c]
end
end SH
/-! W14 -/
set_option Elab.async false
set_option linter.all false
set_option maxRecDepth 100000
set_option maxHeartbeats 1000000
namespace SH
open PySem PySem.Spec PyProof.Rows L2 LamX
theorem relax_keep {val : Str → Int} {x o : Str} {l : Int} {s : SS Str} (h : s.lev x = some l) : (relax val x l s o).lev x = some l := by
  unfold relax
  by_cases hb : better val l s o = true
  · rw [if_pos hb]
    by_cases e : x = o
    · subst e
      unfold better at hb
      rw [h] at hb
      have := of_decide_eq_true hb
      have := mx_left l (val x)
      omega
    · exact (fput_ne e).trans h
  · rw [if_neg hb]; exact h
theorem dput_any {H : Hp} {a : Addr} {ks : List Str} {f g : Str → V} {o : Str} {v : V} (h : H a = some (.dK (mp ks f))) (few : ks.length ≤ 100000) (hg : ∀ m, (if m = o then v else f m) = g m) : DPut H a (.str o) v (upd H a (.dK (mp (if o ∈ ks then ks else ks ++ [o]) g))) := by
  have := DPut.k (k := .inr o) (v := v) h (by rw [mp_len]; exact line8' few)
  rw [putK_mp, funext hg] at this
  exact this
section
variable {P : Program} {w : World} {K : Frg} {mg : Str → Option Value} {base : Heap}
def spSpread (K : Frg) : Sp := fun vs H Q _ => ∃ (a d : Addr) (st : Str) (ch : Ch) (val : Str → Int), vs = [.ref a, .ref d, .str st, .ref (He.dflAt ("spread", none) 0 K)] ∧ ChartAt K H a ch ∧ ch.Ok ∧ H d = some (.dK (mp ch.names fun n => .int (val n))) ∧ st ∈ ch.names ∧ Tabs (TT K) H ∧
  ∀ (H' : Hp) (p lv bf : Addr) (ks : List Str) (L : Str → Int) (B : Str → Option Str) (f : SS Str), Up K H H' → H' p = some (.tup [.ref lv, .ref bf]) → H' lv = some (.dK (mp ks fun n => .int (L n))) → H' bf = some (.dK (mp ks fun n => oV (B n))) → Rel ch.names f ks [] L B →
    Run (nbr ch) val slt (SH.start val st) f → Q (.ref p) H'
abbrev nSp : List Str := ["chart", "values", "start", "stops", "levels", "before", "waiting", "here", "other", "level"]
theorem sc_spread : FnScope nSp ["chart", "values", "start", "stops"] (defScope s_spread) := sc_of
theorem c_spread (t3 : T3 K mg) (b3 : TBs K mg base) : Cal P w K mg base 3 "spread" (spSpread K) [.ref (He.dflAt ("spread", none) 0 K)] := by
  have t := t3.z.t
  obtain ⟨fd, F⟩ := t3.sp
  obtain ⟨ds, hds, hbd⟩ := F.binds1 (ps := ["chart", "values", "start", "stops"]) 3 0 (List.cons_ne_nil _ _) rfl (fun T kV doc pm an cdv ct us its h1 h2 => by
    match us, h1, its, h2 with
    | [u1, u2, u3], _, [d1], _ => exact ⟨_, rfl, by with_unfolding_all rfl⟩)
  refine ⟨_, fd, _, ds, fn_ofT F sc_spread (fun vs H Q E h => ?_) (fun A outer s H vs Q E hr h => ?_), t3.spM, F.kp, hbd, hds⟩
  · obtain ⟨a, _, _, _, _, rfl, _⟩ := h
    rfl
  · obtain ⟨a, d, st, ch, val, rfl, hc, ok, hd, hst, tab, q⟩ := h
    have nd := sc_spread.nd
    have hu := hu_of hr
    have few := ok.few
    have mtS : ((tS K), qS) ∈ TT K := List.mem_cons_self
    obtain ⟨cx, _, _, _, _, ec, _⟩ := id hc
    refine ⟨_, pss_cons (sv 4 nd (pe_disp (pps_cons (pv 2) (pe_dget hu (pv 1) (pv 2) (fun _ _ => rfl)) pps_nil) rfl rfl (List.cons_ne_nil _ _) (by decide)))
      (pss_cons (sv 5 nd (pe_disp (pps_cons (pv 2) pe_non pps_nil) rfl rfl (List.cons_ne_nil _ _) (by decide)))
      (pss_cons (sv 6 nd (pe_disp (pps_cons (pv 2) pe_bl pps_nil) rfl rfl (List.cons_ne_nil _ _) (by decide)))
      (pss_cons (ps_while PassesOwn.never (pt_cmpR (op_ne_dict0 hr.units0) (pv 6) pe_dnewK (nomark _))
        (pss_cons (sv 7 nd (by
            refine pe_minlam (TT := TT K) (N := ["name", "levels"]) (fr := ["levels"]) (js := [4]) (tb := tTup (tCons (tDGet (tVar 1) (tVar 0)) (tCons (tVar 0) tNil))) (k := 0) t.n_min rfl (ct (call_listD rfl) t.n_list (pa_cons (pv 6) pa_nil)) ?L ?S (fun q cl pm cv ctv us hl => match us, hl with | [_], _ => rfl) (hr.mono (by decide)) ?B
            case L => exact ⟨⟨_, tS K, b3.tS, rfl, mtS, fun p hp e => by
              rcases List.mem_cons.mp hp with z | z
              · rw [z]; rfl
              · rw [List.mem_singleton.mp z] at e; exact absurd e.symm t3.ne⟩, rfl, (by show ∀ y ∈ ([("name", NameKind.local), ("levels", NameKind.free)] : List (Str × NameKind)), y.2 = NameKind.free → (defScope s_spread).names.lookup y.1 = some NameKind.cell ∨ (defScope s_spread).names.lookup y.1 = some NameKind.free; decide +kernel), by decide +kernel, rfl⟩
            case S => exact NdefX.nscope_by (by decide +kernel)
            case B => exact fun A outer s H f c' hr0 => pe_tup (pa_cons (pe_dget (hu_of hr0) (pv 1) (pv 0) (fun _ _ => rfl)) (pa_cons (pv 0) pa_nil))))
        (pss_cons (ps_expr (pe_dpop1 (pv 6) (pv 7) ⟨rfl, rfl, rfl, rfl⟩))
        (pss_cons (ps_if (PW.pt (pw_and (pt_cmpR op_in_seq (pv 7) (pv 3) rfl) (pw_and1 (pt_cmpR op_ne (pv 7) (pv 2) (nomark _))))) (pss_one ps_continue) pss_nil)
        (pss_one (ps_for PassesOwn.never rfl (pi_list (pe_mt (m_Nb t) hr (by decide) (pv 0) (pa_cons (pv 7) pa_nil))) (gv 8 nd)
          (pss_cons (sv 9 nd (cb (call_max2 rfl) t.n_max (pa_cons (pe_dget hu (pv 4) (pv 7) (fun _ _ => rfl)) (pa_cons (pe_dget hu (pv 1) (pv 8) (fun _ _ => rfl)) pa_nil))))
          (pss_one (ps_if (PW.pt (pw_or (pt_cmp (pc_dnotin hu (pv 8) (pv 4))) (pw_or1 (pt_cmpR op_lt (pv 9) (pe_dget hu (pv 4) (pv 8) (fun _ _ => rfl)) (nomark _)))))
            (pss_cons (ps_dput hu (pv 4) (pv 8) (pv 9) rfl) (pss_cons (ps_dput hu (pv 5) (pv 8) (pv 7) rfl) (pss_one (ps_dput hu (pv 6) (pv 8) pe_bl rfl)))) pss_nil)))))))))
      (pss_one (ps_ret (pe_tup (pa_cons (pv 4) (pa_cons (pv 5) pa_nil)))))))), ?_⟩
    refine fun LV hLV => ⟨_, rfl, _, rfl, _, rfl, d, _, rfl, dget_mp (f := fun n => V.int (val n)) (.inl ((ext_new hLV) _ _ hd)) hst, upd_same, [(Sum.inr st, .int (val st))], rfl, (by decide : (1 : Nat) ≤ 15), ?_⟩
    rw [upd_upd]
    refine fun BF hBF => ⟨_, rfl, upd_same, [(Sum.inr st, .non)], rfl, (by decide : (1 : Nat) ≤ 15), ?_⟩
    rw [upd_upd]
    refine fun Wt hWt => ⟨_, rfl, upd_same, [(Sum.inr st, .bl true)], rfl, (by decide : (1 : Nat) ≤ 15), ?_⟩
    rw [upd_upd]
    have n1 : BF ≠ LV := fun z => by rw [z, upd_same] at hBF; cases hBF
    have n2 : Wt ≠ BF := fun z => by rw [z, upd_same] at hWt; cases hWt
    have n3 : Wt ≠ LV := fun z => by rw [z, upd_ne (Ne.symm n1), upd_same] at hWt; cases hWt
    have f1 : H BF = none := by rw [upd_ne n1] at hBF; exact hBF
    have f2 : H Wt = none := by rw [upd_ne n2, upd_ne n3] at hWt; exact hWt
    have U0 : Up K H (upd (upd (upd H LV (.dK (mergeK [] [(Sum.inr st, .int (val st))]))) BF (.dK (mergeK [] [(Sum.inr st, .non)]))) Wt (.dK (mergeK [] [(Sum.inr st, .bl true)]))) := ((Up.new hLV).add hBF).add hWt
    refine ⟨fun m σ H' => ∃ (ks ws : List Str) (L : Str → Int) (B : Str → Option Str) (s : SS Str) (done : List Str) (o7 o8 o9 : Option V), σ = [some (.ref a), some (.ref d), some (.str st), some (.ref (He.dflAt ("spread", none) 0 K)), some (.ref LV), some (.ref BF), some (.ref Wt), o7, o8, o9] ∧
      Up K H H' ∧ H' LV = some (.dK (mp ks fun n => .int (L n))) ∧ H' BF = some (.dK (mp ks fun n => oV (B n))) ∧ H' Wt = some (.dK (mp ws fun _ => .bl true)) ∧ Rel ch.names s ks ws L B ∧ JJ (nbr ch) val st s done ∧ (∀ x ∈ done, x ∈ ch.names) ∧ m = ch.names.length - done.length ∧
      ∀ f, Run (nbr ch) val slt s f → Run (nbr ch) val slt (SH.start val st) f, ⟨_, [st], [st], val, fun _ => none, SH.start val st, [], none, none, none, rfl, U0, ?_, ?_, upd_same, Rel.start hst, JJ.start st, fun x h => by simp at h, rfl, fun f h => h⟩, ?_⟩
    · rw [upd_ne (Ne.symm n3), upd_ne (Ne.symm n1), upd_same]; rfl
    · rw [upd_ne (Ne.symm n2), upd_same]; rfl
    rintro m σ H' ⟨ks, ws, L, B, s, done, o7, o8, o9, rfl, U, eL, eB, eW, R, j, jn, rfl, hrun⟩
    refine ⟨_, rfl, fun e he => ⟨Wt, e, _, rfl, rfl, ext_new he _ _ eW, upd_same, _, rfl, ?_⟩⟩
    have s1 : St1 H' (upd H' e (.dK [])) := ext_new he
    cases ws with
    | nil =>
      refine ⟨_, rfl, _, rfl, line2, fun p hp => ?_⟩
      have U2 := (U.trans (Up.all s1)).add (o := .tup [.ref LV, .ref BF]) hp
      have keep : ∀ b o, H' b = some o → upd (upd H' e (.dK [])) p (.tup [.ref LV, .ref BF]) b = some o := fun b o h => ext_new hp _ _ (s1 _ _ h)
      refine q _ p LV BF ks L B s U2 upd_same (keep _ _ eL) (keep _ _ eB) R (hrun s (Run.done fun x => ?_))
      rw [R.wt]; rfl
    | cons w0 wr =>
      refine ⟨fun σ' H2 => ∃ m', m' < ch.names.length - done.length ∧ _, fun σ' H2 h => h, ?_⟩
      have hW1 := s1 _ _ eW
      refine ⟨_, rfl, Wt, _, rfl, .inl hW1, fun p hp => ⟨p, w0 :: wr, L, rfl, by rw [upd_same, mp_keys], List.cons_ne_nil _ _, ((U.trans (Up.all s1)).trans (Up.new hp)).tabs tab, fun H2 x T => ⟨fun n hn H3 Q' st3 k => ?_, fun x0 hx0 hmin H3 st3 => ?_⟩⟩⟩
      · have eL2 := x LV _ (ext_new hp _ _ (s1 _ _ eL)) (fun ps z => nomatch z)
        have nLp : LV ≠ p := ne_of_none (s1 _ _ eL) hp
        exact ⟨_, rfl, _, rfl, LV, _, rfl, dget_mp (f := fun n => V.int (L n)) (.inl (st3 LV _ nLp eL2)) (R.sub n hn), _, rfl, line2, fun tp htp => k tp htp⟩
      · have Ux : Up K (upd (upd H' e (.dK [])) p (.lst ((mp (w0 :: wr) fun _ => V.bl true).map fun kv => kV kv.1))) H3 := ⟨x.trans (ExtN.of st3), fun _ => T.ext st3⟩
        have U13 : Up K H' H3 := ((Up.all s1).trans (Up.new hp)).trans Ux
        have U3 := U.trans U13
        have hxn := R.kin x0 (R.sub x0 hx0)
        have hW3 := U13.at eW
        have hl : s.lev x0 = some (L x0) := R.some (R.sub x0 hx0)
        have im : IsMin slt s x0 := ⟨by rw [R.wt]; exact decide_eq_true hx0, fun y hy hne => by
          have hy' := of_decide_eq_true ((R.wt y).symm.trans hy)
          exact ⟨L x0, L y, hl, R.some (R.sub y hy'), hmin y hy' hne⟩⟩
        refine ⟨_, rfl, Wt, rfl, .inl ⟨_, .inl hW3⟩, _, rfl, _, .inr x0, .bl true, hW3, rfl, valV_in (f := fun _ => V.bl true) hx0, ?_⟩
        rw [dropK_mp]
        generalize hH4 : upd H3 Wt (.dK (mp ((w0 :: wr).filter fun m => decide (m ≠ x0)) fun _ => .bl true)) = H4
        have U4 : Up K H H4 := by rw [← hH4]; exact U3.wr f2 hW3 trivial
        have eL4 : H4 LV = some (.dK (mp ks fun n => .int (L n))) := by rw [← hH4, upd_ne (Ne.symm n3)]; exact U13.at eL
        have eB4 : H4 BF = some (.dK (mp ks fun n => oV (B n))) := by rw [← hH4, upd_ne (Ne.symm n2)]; exact U13.at eB
        have eW4 : H4 Wt = some (.dK (mp ((w0 :: wr).filter fun m => decide (m ≠ x0)) fun _ => .bl true)) := by rw [← hH4, upd_same]
        refine ⟨_, rfl, _, rfl, _, [], rfl, .inr (t.e0 _), rfl, rfl, false, rfl, ?_⟩
        refine ⟨_, rfl, a, cx, _, rfl, U4.at ec, rfl, _, rfl, a, x0, ch, rfl, hc.up U4, hxn, fun p2 hp2 => ⟨p2, rfl, ⟨_, SqL.of upd_same⟩, for_it walk_names (fun i σ H5 => ∃ (ks ws : List Str) (L' : Str → Int) (B : Str → Option Str) (o8 o9 : Option V),
          σ = [some (.ref a), some (.ref d), some (.str st), some (.ref (He.dflAt ("spread", none) 0 K)), some (.ref LV), some (.ref BF), some (.ref Wt), some (.str x0), o8, o9] ∧ Up K H H5 ∧ H5 LV = some (.dK (mp ks fun n => .int (L' n))) ∧ H5 BF = some (.dK (mp ks fun n => oV (B n))) ∧ H5 Wt = some (.dK (mp ws fun _ => .bl true)) ∧
          Rel ch.names (((nbr ch x0).take i).foldl (relax val x0 (L x0)) (popped s x0)) ks ws L' B ∧ H5 p2 = some (.lst ((nbr ch x0).map V.str)) ∧ (((nbr ch x0).take i).foldl (relax val x0 (L x0)) (popped s x0)).lev x0 = some (L x0))
          ⟨ks, _, L, B, _, _, rfl, U4.add hp2, ext_new hp2 _ _ eL4, ext_new hp2 _ _ eB4, ext_new hp2 _ _ eW4, R.pop x0, upd_same, hl⟩ (fun i σ H5 _ h => let ⟨_, _, _, _, _, _, _, _, _, _, _, _, e, _⟩ := h; SqL.of e) (fun i x σ H5 H6 hi h hy => ?_) (fun σ H5 h => ?_)⟩⟩
        · obtain ⟨ks, ws, L', B, o8, o9, rfl, U5, eL5, eB5, eW5, R5, e2, hl5⟩ := h
          obtain ⟨rfl, o, ho, rfl⟩ := hy
          have hon := nbr_in (List.mem_of_getElem? ho)
          have tk : ((nbr ch x0).take (i + 1)).foldl (relax val x0 (L x0)) (popped s x0) = relax val x0 (L x0) (((nbr ch x0).take i).foldl (relax val x0 (L x0)) (popped s x0)) o := by
            rw [take_next ho, List.foldl_append]; rfl
          generalize ((nbr ch x0).take i).foldl (relax val x0 (L x0)) (popped s x0) = s5 at R5 hl5 tk ⊢
          have x0k : x0 ∈ ks := by
            by_cases c : x0 ∈ ks
            · exact c
            · rw [R5.none c] at hl5; cases hl5
          have eLx : L' x0 = L x0 := by rw [R5.some x0k] at hl5; exact Option.some.inj hl5
          refine ⟨_, rfl, _, rfl, LV, _, rfl, dget_mp (f := fun n => V.int (L' n)) (.inl eL5) x0k, _, rfl, _, rfl, d, _, rfl, dget_mp (f := fun n => V.int (val n)) (.inl (U5.at hd)) hon, L' x0, val o, rfl, ?_⟩
          have klen : ks.length ≤ 100000 := by have := len_of_nodup R5.knd R5.kin; omega
          have wlen : ws.length ≤ 100000 := by have := len_of_nodup R5.wnd R5.sub; have := len_of_nodup R5.knd R5.kin; omega
          have nLB : LV ≠ BF := Ne.symm n1
          have fin : better val (L x0) s5 o = true → ∀ H7, H7 = upd (upd (upd H6 LV (.dK (mp (if o ∈ ks then ks else ks ++ [o]) fun m => .int (if m = o then mx (L' x0) (val o) else L' m)))) BF (.dK (mp (if o ∈ ks then ks else ks ++ [o]) fun m => oV (if m = o then some x0 else B m)))) Wt (.dK (mp (if o ∈ ws then ws else ws ++ [o]) fun _ => .bl true)) →
              (Up K H H7 ∧ H7 LV = some (.dK (mp (if o ∈ ks then ks else ks ++ [o]) fun m => .int (if m = o then mx (L' x0) (val o) else L' m))) ∧ H7 BF = some (.dK (mp (if o ∈ ks then ks else ks ++ [o]) fun m => oV (if m = o then some x0 else B m))) ∧ H7 Wt = some (.dK (mp (if o ∈ ws then ws else ws ++ [o]) fun _ => .bl true)) ∧
              Rel ch.names (relax val x0 (L x0) s5 o) (if o ∈ ks then ks else ks ++ [o]) (if o ∈ ws then ws else ws ++ [o]) (fun m => if m = o then mx (L' x0) (val o) else L' m) (fun m => if m = o then some x0 else B m) ∧ H7 p2 = some (.lst ((nbr ch x0).map V.str)) ∧ (relax val x0 (L x0) s5 o).lev x0 = some (L x0)) := by
            rintro hb H7 rfl
            have d1 : ∀ b, H6 b = some (.lst ((nbr ch x0).map V.str)) → b ≠ LV ∧ b ≠ BF ∧ b ≠ Wt := fun b hb => ⟨ne_of hb eL5 (fun z => nomatch z), ne_of hb eB5 (fun z => nomatch z), ne_of hb eW5 (fun z => nomatch z)⟩
            obtain ⟨q1, q2, q3⟩ := d1 p2 e2
            refine ⟨?_, ?_, ?_, upd_same, ?_, ?_, relax_keep hl5⟩
            · have u1 := U5.wr (o := .dK (mp (if o ∈ ks then ks else ks ++ [o]) fun m => .int (if m = o then mx (L' x0) (val o) else L' m))) hLV eL5 trivial
              have u2 := u1.wr (o := .dK (mp (if o ∈ ks then ks else ks ++ [o]) fun m => oV (if m = o then some x0 else B m))) f1 ((upd_ne n1).trans eB5) trivial
              exact u2.wr f2 ((upd_ne n2).trans ((upd_ne n3).trans eW5)) trivial
            · rw [upd_ne (Ne.symm n3), upd_ne nLB, upd_same]
            · rw [upd_ne (Ne.symm n2), upd_same]
            · unfold relax
              rw [if_pos hb, ← eLx]
              exact R5.put hon
            · rw [upd_ne q3, upd_ne q2, upd_ne q1]; exact e2
          refine ⟨_, rfl, _, rfl, LV, _, rfl, din_mp (.inl eL5), _, rfl, ?_⟩
          have hbt := R5.better (val := val) (l := L x0) (o := o)
          by_cases c : o ∈ ks
          · rw [if_pos c] at hbt
            rw [if_pos c]
            refine ⟨_, rfl, _, rfl, _, rfl, LV, _, rfl, dget_mp (f := fun n => V.int (L' n)) (.inl eL5) c, _, _, rfl, rfl, _, rfl, ?_⟩
            refine ite2 (fun h => ?_) (fun h => ?_)
            · have hb : better val (L x0) s5 o = true := by rw [hbt, ← eLx]; exact h
              obtain ⟨g1, g2, g3, g4, g5, g6, g7⟩ := fin hb _ rfl
              refine ⟨_, rfl, _, rfl, _, rfl, LV, _, rfl, dput_any (g := fun m => V.int (if m = o then mx (L' x0) (val o) else L' m)) eL5 klen (fun m => by split <;> rfl), ?_⟩
              refine ⟨_, rfl, _, rfl, _, rfl, BF, _, rfl, dput_any (g := fun m => oV (if m = o then some x0 else B m)) ((upd_ne n1).trans eB5) klen (fun m => by split <;> rfl), ?_⟩
              refine ⟨_, rfl, _, rfl, Wt, _, rfl, dput_any (g := fun _ => V.bl true) ((upd_ne n2).trans ((upd_ne n3).trans eW5)) wlen (fun m => by split <;> rfl), ?_⟩
              exact ⟨_, _, _, _, _, _, rfl, g1, g2, g3, g4, by rw [tk]; exact g5, g6, by rw [tk]; exact g7⟩
            · have hb : ¬ better val (L x0) s5 o = true := by rw [hbt, ← eLx]; exact h
              have e5 : relax val x0 (L x0) s5 o = s5 := by unfold relax; rw [if_neg hb]
              exact ⟨_, _, _, _, _, _, rfl, U5, eL5, eB5, eW5, by rw [tk, e5]; exact R5, e2, by rw [tk, e5]; exact hl5⟩
          · rw [if_neg c] at hbt
            rw [if_neg c]
            obtain ⟨g1, g2, g3, g4, g5, g6, g7⟩ := fin hbt _ rfl
            refine ⟨_, rfl, _, rfl, _, rfl, LV, _, rfl, dput_any (g := fun m => V.int (if m = o then mx (L' x0) (val o) else L' m)) eL5 klen (fun m => by split <;> rfl), ?_⟩
            refine ⟨_, rfl, _, rfl, _, rfl, BF, _, rfl, dput_any (g := fun m => oV (if m = o then some x0 else B m)) ((upd_ne n1).trans eB5) klen (fun m => by split <;> rfl), ?_⟩
            refine ⟨_, rfl, _, rfl, Wt, _, rfl, dput_any (g := fun _ => V.bl true) ((upd_ne n2).trans ((upd_ne n3).trans eW5)) wlen (fun m => by split <;> rfl), ?_⟩
            exact ⟨_, _, _, _, _, _, rfl, g1, g2, g3, g4, by rw [tk]; exact g5, g6, by rw [tk]; exact g7⟩
        · obtain ⟨ks, ws, L', B, o8, o9, rfl, U5, eL5, eB5, eW5, R5, e2, hl5⟩ := h
          rw [List.take_length] at R5
          have j' := j.turn im hl
          have jn' : ∀ x ∈ x0 :: done, x ∈ ch.names := fun x hx => by
            rcases List.mem_cons.mp hx with z | z
            · rw [z]; exact hxn
            · exact jn x z
          have hle := len_of_nodup j'.nd jn'
          rw [List.length_cons] at hle
          exact ⟨_, by rw [List.length_cons]; omega, ks, ws, L', B, _, x0 :: done, _, _, _, rfl, U5, eL5, eB5, eW5, R5, j', jn', rfl, fun f r => hrun f (Run.turn im hl r)⟩
end
end SH
/-! W15 -/
set_option Elab.async false
set_option linter.all false
set_option maxRecDepth 100000
set_option maxHeartbeats 1000000
namespace SH
open PySem PySem.Spec PyProof.Rows L2 LamX
theorem eqv_nil (ds : List PyData) : PyData.eqv (.list ds) (.list []) = ds.isEmpty := by
  rw [PyData.eqv]
  cases ds with
  | nil => rw [PyData.eqvAll]; rfl
  | cons d r => rw [PyData.eqvAll]; rfl
theorem shaped_nil : SeqAt.shaped (.list []) = true := by decide +kernel
abbrev dI (l : List Int) : PyData := .list (l.map .int)
theorem shaped_dI (l : List Int) : SeqAt.shaped (dI l) = true := by
  unfold SeqAt.shaped
  rw [PyData.canLay0, canLayAll_map (fun n _ => by rw [PyData.canLay0]), PyData.depth, decide_eq_true]
  · rfl
  · have := depthAll_map (f := PyData.int) (k := 0) (l := l) fun n _ => by rw [PyData.depth]; exact Nat.le_refl _
    omega
theorem dpAll_ints {K : Frg} {H : Hp} : ∀ l : List Int, DpAll K H (l.map V.int) (l.map PyData.int)
  | [] => .nil
  | n :: l => .cons (.int n) (dpAll_ints l)
def oI : Option Int → V
  | none => .non
  | some i => .int i
def MinOf (r : Option Int) (l : List Int) : Prop := (r = none ∧ l = []) ∨ ∃ m, r = some m ∧ m ∈ l ∧ ∀ y ∈ l, m ≤ y
theorem exists_min : ∀ l : List Int, l ≠ [] → ∃ m ∈ l, ∀ y ∈ l, m ≤ y
  | [], h => absurd rfl h
  | [a], _ => ⟨a, by simp, by simp⟩
  | a :: b :: r, _ => by
    obtain ⟨m, hm, hmin⟩ := exists_min (b :: r) (List.cons_ne_nil _ _)
    by_cases c : a ≤ m
    · refine ⟨a, List.mem_cons_self, fun y hy => ?_⟩
      rcases List.mem_cons.mp hy with z | z
      · omega
      · have := hmin y z; omega
    · refine ⟨m, List.mem_cons_of_mem _ hm, fun y hy => ?_⟩
      rcases List.mem_cons.mp hy with z | z
      · omega
      · exact hmin y z
theorem BC.get {bef : Str → Option (Option Str)} {l : List Str} (h : BC bef l) : ∀ {i : Nat} {x : Str}, l[i]? = some x → (l[i + 1]? = none ∧ bef x = some none) ∨ ∃ q, l[i + 1]? = some q ∧ bef x = some (some q) := by
  induction h with
  | one h =>
    intro i x hx
    cases i with
    | zero =>
      simp only [List.getElem?_cons_zero, Option.some.injEq] at hx
      subst hx; exact .inl ⟨rfl, h⟩
    | succ i => simp at hx
  | cons h _ ih =>
    intro i x hx
    cases i with
    | zero =>
      simp only [List.getElem?_cons_zero, Option.some.injEq] at hx
      subst hx; exact .inr ⟨_, rfl, h⟩
    | succ i =>
      rw [List.getElem?_cons_succ] at hx ⊢
      exact ih hx
section
variable {P : Program} {w : World} {K : Frg} {mg : Str → Option Value} {base : Heap}
/-- nothing is there but a table -/
def Fr (H : Hp) (p : Addr) : Prop := ∀ v, H p = some v → ∃ ps, v = .tbl ps
theorem Fr.of {H : Hp} {p : Addr} (h : H p = none) : Fr H p := fun v e => by rw [h] at e; cases e
theorem Fr.back {H H2 : Hp} {p : Addr} (h : Fr H2 p) (u : Up K H H2) : Fr H p := fun v e => by
  by_cases c : ∃ ps, v = .tbl ps
  · exact c
  · exact h v (u.ext p v e fun ps z => c ⟨ps, z⟩)
theorem Up.wrF {H H1 : Hp} {p : Addr} {o u : HO} (x : Up K H H1) (n : Fr H p) (h : H1 p = some u) (l : Lcl u) : Up K H (upd H1 p o) := by
  refine ⟨fun b v e hb => ?_, fun t P hP => ?_⟩
  · by_cases c : b = p
    · subst c; obtain ⟨ps, z⟩ := n v e; exact absurd z (hb ps)
    · rw [upd_ne c]; exact x.ext b v e hb
  · obtain ⟨ps, h1, h2, h3⟩ := x.tab t P hP
    have n1 : P.1 ≠ p := fun z => by rw [z, h] at h1; exact l.nt.1 ps (Option.some.inj h1)
    refine ⟨ps, by rw [upd_ne n1]; exact h1, h2, fun pos cv hc => ?_⟩
    obtain ⟨c, e1, e2⟩ := h3 pos cv hc
    refine ⟨c, e1, ?_⟩
    rw [upd_ne (fun z => by rw [z, h] at e2; exact l.nt.2 _ _ (Option.some.inj e2))]
    exact e2
theorem line1 : (1 : Nat) ≤ sizeLine := line8 (by decide)
def fmL (ks : List Str) (L : Str → Int) (ds : List Str) : List Int := ds.filterMap fun n => if n ∈ ks then some (L n) else none
def spLL (K : Frg) : Sp := fun vs H Q _ => ∃ (d l : Addr) (ks ds : List Str) (L : Str → Int), vs = [.ref d, .ref l] ∧ H d = some (.dK (mp ks fun n => .int (L n))) ∧ H l = some (.lst (ds.map V.str)) ∧ ds.length ≤ 100000 ∧ ∀ H' r, Up K H H' → MinOf r (fmL ks L ds) → Q (oI r) H'
theorem sc_LL : FnScope ["levels", "names", "found", "name"] ["levels", "names"] (defScope s_least_level) := sc_of
theorem c_least_level (t : T K mg) : Cal P w K mg base 1 "least_level" (spLL K) [] := by
  refine cal_of t.d_least_level sc_LL (fun _ _ _ _ _ _ us hl => match us, hl with | [_, _], _ => rfl) (fun vs H Q E h => ?_) (fun f cdv A outer s H vs Q E hr h => ?_)
  · obtain ⟨a, _, _, _, _, rfl, _⟩ := h
    rfl
  · obtain ⟨d, l, ks, ds, L, rfl, hd, hl, few, q⟩ := h
    have nd := sc_LL.nd
    have hu := hu_of hr
    have h64 := hr.units
    refine ⟨_, pss_cons (slc1t 2 3 rfl nd (pi_list (pv 1)) (fun _ _ _ _ _ => pts_one (pt_cmp (pc_din hu (pv 3) (pv 0)))) (fun _ _ _ _ _ => pe_dget hu (pv 0) (pv 3) (fun _ _ => rfl)) (bk ["levels", "names", "found", "name"] s_least_level))
      (pss_one (ps_ret (pe_ifExp (pt_cmpR (op_neD h64) (pv 2) (pe_lst pa_nil) (nomark _)) (cb (cr_min rfl) t.n_min (pa_cons (pv 2) pa_nil)) pe_non))), ?_⟩
    refine ⟨_, rfl, l, rfl, ⟨_, SqL.of hl⟩, fun D hD => lcF (K := K) walk_names hD (fun n => if n ∈ ks then some (.int (L n)) else none) few (fun H u => SqL.of (u.at hl)) (fun i n x H2 H' Pn Py hn u hy kn ky => ?_) (fun H2 u e => ?_)⟩
    · obtain ⟨rfl, n', hn', rfl⟩ := hy
      obtain rfl : n = n' := Option.some.inj (hn.symm.trans hn')
      refine ⟨rfl, _, rfl, _, rfl, d, _, rfl, din_mp (.inl (u.at hd)), _, rfl, ?_⟩
      by_cases c : n ∈ ks
      · rw [if_pos c]
        exact ⟨_, rfl, _, rfl, d, _, rfl, dget_mp (f := fun n => V.int (L n)) (.inl (u.at hd)) c, ky _ _ Up.rfl' (if_pos c)⟩
      · rw [if_neg c]
        exact kn _ Up.rfl' (if_neg c)
    · have e' : H2 D = some (.lst ((fmL ks L ds).map V.int)) := by
        rw [e]
        unfold fmL
        rw [List.map_filterMap]
        congr 2
        refine congrArg (fun f => List.filterMap f ds) (funext fun n => ?_)
        by_cases c : n ∈ ks
        · rw [if_pos c, if_pos c]; rfl
        · rw [if_neg c, if_neg c]; rfl
      refine ⟨_, rfl, line8 (by decide), fun p hp => ⟨dI (fmL ks L ds), .list [], .lst (SqL.of (ext_new hp _ _ e')) (dpAll_ints _), .lst (SqL.of upd_same) .nil, shaped_dI _, shaped_nil, _, rfl, ?_⟩⟩
      rw [eqv_nil]
      have U := u.trans (Up.new (K := K) (o := .lst []) hp)
      cases hf : fmL ks L ds with
      | nil => exact q _ none U (.inl ⟨rfl, hf⟩)
      | cons m0 r0 =>
        refine ⟨_, rfl, D, m0 :: r0, rfl, SqL.of (by rw [hf] at e'; exact ext_new hp _ _ e'), Nat.succ_pos _, fun m h1 h2 => q _ (some m) U (.inr ⟨m, rfl, by rw [hf]; exact h1, fun y hy => h2 y (by rw [hf] at hy; exact hy)⟩)⟩
/-- the way back -/
def spWay (K : Frg) : Sp := fun vs H Q _ => ∃ (d : Addr) (n : Str) (ks : List Str) (B : Str → Option Str) (r : List Str), vs = [.ref d, .str n] ∧ H d = some (.dK (mp ks fun n => oV (B n))) ∧ BC (fun x => if x ∈ ks then some (B x) else none) (n :: r) ∧ r.length ≤ 1000 ∧
  ∀ H' q, Up K H H' → H q = none → H' q = some (.lst ((n :: r).reverse.map V.str)) → Q (.ref q) H'
theorem sc_Way : FnScope ["before", "name", "way"] ["before", "name"] (defScope s_way_back) := sc_of
theorem c_way_back (t : T K mg) : Cal P w K mg base 1 "way_back" (spWay K) [] := by
  refine cal_of t.d_way_back sc_Way (fun _ _ _ _ _ _ us hl => match us, hl with | [_, _], _ => rfl) (fun vs H Q E h => ?_) (fun f cdv A outer s H vs Q E hr h => ?_)
  · obtain ⟨a, _, _, _, _, rfl, _⟩ := h
    rfl
  · obtain ⟨d, n, ks, B, r, rfl, hd, bc, few, q⟩ := h
    have nd := sc_Way.nd
    have hu := hu_of hr
    refine ⟨_, pss_cons (sv 2 nd (pe_lst (pa_cons (pv 1) pa_nil)))
      (pss_cons (ps_while PassesOwn.never (pt_cmp (pc_notN (pe_dget hu (pv 0) (pe_ix ix_list (pv 2) (pe_un un_neg pe_int) (fun _ _ => rfl)) (fun _ _ => rfl))))
        (pss_one (ps_expr (pe_bm PySem.F.plainAttrs_list PySem.F.slot_list_append PySem.F.type_list_append mt_append (pv 2) (pa_cons (pe_dget hu (pv 0) (pe_ix ix_list (pv 2) (pe_un un_neg pe_int) (fun _ _ => rfl)) (fun _ _ => rfl)) pa_nil)))))
      (pss_one (ps_ret (pe_revL (pv 2))))), ?_⟩
    refine ⟨_, rfl, line1, fun Wy hWy => ?_⟩
    refine ⟨fun m σ H' => ∃ (i : Nat) (x : Str), σ = [some (.ref d), some (.str n), some (.ref Wy)] ∧ St1 H H' ∧ (n :: r)[i]? = some x ∧ H' Wy = some (.lst (((n :: r).take i ++ [x]).map V.str)) ∧ m = r.length - i, ⟨_, 0, n, rfl, ext_new hWy, rfl, upd_same, rfl⟩, ?_⟩
    rintro m σ H' ⟨i, x, rfl, U, hx, eW, rfl⟩
    have hxk : x ∈ ks ∧ (if x ∈ ks then some (B x) else none) = some (B x) := by
      by_cases c : x ∈ ks
      · exact ⟨c, if_pos c⟩
      · rcases bc.get hx with ⟨_, z⟩ | ⟨_, _, z⟩
        · have z : (if x ∈ ks then some (B x) else none) = some none := z
          rw [if_neg c] at z; cases z
        · have z : (if x ∈ ks then some (B x) else none) = some (some _) := z
          rw [if_neg c] at z; cases z
    have lst : atI (((n :: r).take i ++ [x]).map V.str) (-1) = some (.str x) := by
      rw [List.map_append]; exact atI_last _ _
    have dg : DGet H' d (.str x) (some (oV (B x))) := dget_mp (f := fun n => oV (B n)) (.inl (U _ _ hd)) hxk.1
    have hi : i < (n :: r).length := (List.getElem?_eq_some_iff.mp hx).1
    rw [List.length_cons] at hi
    refine ⟨_, rfl, _, rfl, _, rfl, Wy, _, -1, _, rfl, rfl, SqL.of eW, lst, d, _, rfl, dg, _, rfl, ?_⟩
    rcases bc.get hx with ⟨hn, hb⟩ | ⟨y, hn, hb⟩
    · have hb : (if x ∈ ks then some (B x) else none) = some none := hb
      rw [hxk.2] at hb
      rw [Option.some.inj hb]
      refine ⟨_, rfl, Wy, _, rfl, SqL.of eW, fun p hp => ?_⟩
      have hfull : (n :: r).take i ++ [x] = n :: r := by
        rw [← take_next hx]
        exact List.take_of_length_le (List.getElem?_eq_none_iff.mp hn)
      refine q _ p ((Up.all U).trans (Up.new hp)) ?_ (by rw [upd_same, hfull, List.map_reverse])
      cases c : H p with
      | none => rfl
      | some v => rw [U _ _ c] at hp; cases hp
    · have hb : (if x ∈ ks then some (B x) else none) = some (some y) := hb
      rw [hxk.2] at hb
      rw [Option.some.inj hb]
      refine ⟨fun σ' H2 => ∃ m', m' < r.length - i ∧ _, fun σ' H2 h => h, ?_⟩
      refine ⟨_, rfl, .inl ⟨rfl, _, SqL.of eW⟩, _, rfl, _, rfl, _, rfl, Wy, _, -1, _, rfl, rfl, SqL.of eW, lst, d, _, rfl, dg, Wy, _, _, rfl, rfl, eW, ?_, ?_⟩
      · rw [List.length_map, List.length_append, List.length_take, List.length_singleton, List.length_cons]; exact line8' (by omega)
      · rw [Option.some.inj hb]
        have hi2 : i + 1 < (n :: r).length := (List.getElem?_eq_some_iff.mp hn).1
        rw [List.length_cons] at hi2
        refine ⟨_, by omega, i + 1, y, rfl, U.rd hWy, hn, ?_, rfl⟩
        rw [upd_same, take_next hx, List.map_append (l₂ := [y])]; rfl
end
end SH
/-! W16 -/
set_option Elab.async false
set_option linter.all false
set_option maxRecDepth 100000
set_option maxHeartbeats 1000000
namespace SH
open PySem PySem.Spec PyProof.Rows L2 LamX
/-! ### the water, plainly -/
def IsLv (ch : Ch) (val : Str → Int) (st : Str) (r : Option Int) : Prop := ∀ L, (∃ o ∈ ch.drains, Rch (nbr ch) val L st o) ↔ ∃ m, r = some m ∧ m ≤ L
theorem IsLv.uniq {ch : Ch} {val : Str → Int} {st : Str} {r r' : Option Int} (h : IsLv ch val st r) (k : IsLv ch val st r') : r = r' := by
  have one : ∀ {a b : Option Int}, IsLv ch val st a → IsLv ch val st b → ∀ m, a = some m → ∃ m', b = some m' ∧ m' ≤ m := fun h k m e => (k m).mp ((h m).mpr ⟨m, e, Int.le_refl _⟩)
  cases r with
  | none =>
    cases r' with
    | none => rfl
    | some m => obtain ⟨m', e, _⟩ := one k h m rfl; cases e
  | some m =>
    obtain ⟨m', e1, l1⟩ := one h k m rfl
    obtain ⟨m2, e2, l2⟩ := one k h m' e1
    cases e2
    rw [e1, show m = m' by omega]
open Classical in
noncomputable def LV (ch : Ch) (val : Str → Int) (st : Str) : Option Int := if h : ∃ r, IsLv ch val st r then Classical.choose h else none
theorem IsLv.eq {ch : Ch} {val : Str → Int} {st : Str} {r : Option Int} (h : IsLv ch val st r) : r = LV ch val st := by
  have e : ∃ r, IsLv ch val st r := ⟨r, h⟩
  unfold LV
  rw [dif_pos e]
  exact h.uniq (Classical.choose_spec e)
theorem lv_found {ch : Ch} {val : Str → Int} {st : Str} {f : SS Str} {ks : List Str} {L : Str → Int} {B : Str → Option Str} {r : Option Int} (run : Run (nbr ch) val slt (SH.start val st) f) (R : Rel ch.names f ks [] L B) (m : MinOf r (fmL ks L ch.drains)) : IsLv ch val st r := by
  have fd := run.found
  have mem : ∀ y, y ∈ fmL ks L ch.drains ↔ ∃ o ∈ ch.drains, f.lev o = some y := fun y => by
    unfold fmL
    rw [List.mem_filterMap]
    exact ⟨fun ⟨o, h1, h2⟩ => ⟨o, h1, by rw [R.lev]; exact h2⟩, fun ⟨o, h1, h2⟩ => ⟨o, h1, by rw [R.lev] at h2; exact h2⟩⟩
  intro M
  constructor
  · rintro ⟨o, ho, hr⟩
    obtain ⟨l, h1, h2⟩ := (fd.lev o M).mp hr
    have hl := (mem l).mpr ⟨o, ho, h1⟩
    rcases m with ⟨_, e⟩ | ⟨y, e, _, hy⟩
    · rw [e] at hl; cases hl
    · exact ⟨y, e, Int.le_trans (hy l hl) h2⟩
  · rintro ⟨y, rfl, hy⟩
    rcases m with ⟨e, _⟩ | ⟨z, e, hz, _⟩
    · cases e
    · cases e
      obtain ⟨o, ho, h1⟩ := (mem _).mp hz
      exact ⟨o, ho, (fd.lev o M).mpr ⟨_, h1, hy⟩⟩
theorem Rch.val_st {α : Type} [DecidableEq α] {near : α → List α} {val : α → Int} {L : Int} {s p : α} (h : Rch near val L s p) : val s ≤ L := by
  induction h with
  | base h => exact h
  | step _ _ _ ih => exact ih
theorem IsLv.ge {ch : Ch} {val : Str → Int} {st : Str} {l : Int} (h : IsLv ch val st (some l)) : val st ≤ l := by
  obtain ⟨o, _, hr⟩ := (h l).mpr ⟨l, rfl, Int.le_refl _⟩
  exact hr.val_st
noncomputable def dryH (ch : Ch) (n : Str) : Int := match LV ch ch.low n with
  | none => ch.high n
  | some l => if l < ch.high n then l else ch.high n
noncomputable def waterF (ch : Ch) (hs : Str → Int) (n : Str) : Option Int := (LV ch hs n).map fun l => l - hs n
noncomputable def totalF (ch : Ch) (hs : Str → Int) : Int := (ch.names.filterMap (waterF ch hs)).sum
noncomputable def leastW (ch : Ch) (n : Str) : Option Int := (LV ch ch.low n).map fun l => mx 0 (l - ch.high n)
def wetH (ch : Ch) (n : Str) : Str → Int := setF ch.high n (ch.low n)
noncomputable def sureF (ch : Ch) : List Str := ch.names.filter fun n => match leastW ch n with
  | none => false
  | some w => decide (0 < w)
noncomputable def neverF (ch : Ch) : List Str := ch.names.filter fun n => decide (waterF ch (wetH ch n) n = some 0)
section
variable {P : Program} {w : World} {K : Frg} {mg : Str → Option Value} {base : Heap}
theorem oI_map {g : Int → Int} : ∀ r : Option Int, oI (r.map g) = match r with | none => .non | some i => .int (g i)
  | none => rfl
  | some _ => rfl
def spLB (K : Frg) : Sp := fun vs H Q _ => ∃ (a d : Addr) (st : Str) (ch : Ch) (val : Str → Int), vs = [.ref a, .ref d, .str st] ∧ ChartAt K H a ch ∧ ch.Ok ∧ H d = some (.dK (mp ch.names fun n => .int (val n))) ∧ st ∈ ch.names ∧ Tabs (TT K) H ∧
  ∀ H', Up K H H' → IsLv ch val st (LV ch val st) → Q (oI (LV ch val st)) H'
theorem sc_LB : FnScope ["chart", "values", "name", "levels", "before"] ["chart", "values", "name"] (defScope s_level_by) := sc_of
theorem c_level_by (t3 : T3 K mg) (b3 : TBs K mg base) : Cal P w K mg base 4 "level_by" (spLB K) [] := by
  have t := t3.z.t
  refine cal_of t.d_level_by sc_LB (fun _ _ _ _ _ _ us hl => match us, hl with | [_, _, _], _ => rfl) (fun vs H Q E h => ?_) (fun f cdv A outer s H vs Q E hr h => ?_)
  · obtain ⟨a, _, _, _, _, rfl, _⟩ := h
    rfl
  · obtain ⟨a, d, st, ch, val, rfl, hc, ok, hd, hst, tab, q⟩ := h
    have nd := sc_LB.nd
    obtain ⟨cx, _, _, _, _, ec, _⟩ := id hc
    refine ⟨_, pss_cons (ps_asg (pe_c (c_spread t3 b3) hr (by decide) (pa_cons (pv 0) (pa_cons (pv 1) (pa_cons (pv 2) pa_nil)))) (pg_tup rfl (pgs_cons (gv 3 nd) (pgs_cons (gv 4 nd) pgs_nil))))
      (pss_one (ps_ret (pe_c (c_least_level t) hr (by decide) (pa_cons (pv 3) (pa_cons (pe_mt0 (m_Outlets t) hr (by decide) (pv 0)) pa_nil))))), ?_⟩
    refine ⟨_, rfl, _, rfl, _, rfl, a, d, st, ch, val, rfl, hc, ok, hd, hst, tab, fun H1 p lv bf ks L B f u1 ep elv ebf R run => ?_⟩
    refine ⟨p, _, rfl, SqT.of ep, rfl, _, _, rfl, _, _, rfl, rfl, ?_⟩
    refine ⟨_, rfl, _, rfl, a, cx, _, rfl, u1.at ec, rfl, a, ch, rfl, hc.up u1, fun po hpo => ?_⟩
    refine ⟨lv, po, ks, ch.drains, L, rfl, ext_new hpo _ _ elv, upd_same, by have := ok.dfew; omega, fun H2 r u2 mr => ?_⟩
    have il := lv_found run R mr
    have e := il.eq
    subst e
    exact q H2 ((u1.add hpo).trans u2) il
def spWL (K : Frg) : Sp := fun vs H Q _ => ∃ (a c : Addr) (st : Str) (ch : Ch) (hs : Str → Int), vs = [.ref a, .str st] ∧ LandC K H a c ch hs ∧ ch.Ok ∧ st ∈ ch.names ∧ Tabs (TT K) H ∧ ∀ H', Up K H H' → IsLv ch hs st (LV ch hs st) → Q (oI (LV ch hs st)) H'
theorem sc_WL : FnScope ["land", "name"] ["land", "name"] (defScope s_water_level) := sc_of
theorem c_water_level (t3 : T3 K mg) (b3 : TBs K mg base) : Cal P w K mg base 5 "water_level" (spWL K) [] := by
  have t := t3.z.t
  refine cal_of t.d_water_level sc_WL (fun _ _ _ _ _ _ us hl => match us, hl with | [_, _], _ => rfl) (fun vs H Q E h => ?_) (fun f cdv A outer s H vs Q E hr h => ?_)
  · obtain ⟨a, _, _, _, _, rfl, _⟩ := h
    rfl
  · obtain ⟨a, c, st, ch, hs, rfl, hl, ok, hst, tab, q⟩ := h
    obtain ⟨dx, d, e, hc, hd⟩ := id hl
    refine ⟨_, pss_cons (ps_expr (pe_c (c_need_land t) hr (by decide) (pa_cons (pv 0) pa_nil)))
      (pss_cons (ps_expr (pe_c (c_need_place t) hr (by decide) (pa_cons (pe_fld (pv 0) rfl) (pa_cons (pv 1) pa_nil))))
      (pss_one (ps_ret (pe_c (c_level_by t3 b3) hr (by decide) (pa_cons (pe_fld (pv 0) rfl) (pa_cons (pe_mt0 (m_LHts t) hr (by decide) (pv 0)) (pa_cons (pv 1) pa_nil))))))), ?_⟩
    refine ⟨_, rfl, a, dx, _, rfl, e, ?_⟩
    refine ⟨_, rfl, a, _, dx, _, _, rfl, e, t.clL, t.aL_chart, rfl, _, rfl, c, st, ch, rfl, hc, hst, ?_⟩
    refine ⟨_, rfl, a, _, dx, _, _, rfl, e, t.clL, t.aL_chart, rfl, _, rfl, a, dx, _, rfl, e, rfl, a, c, ch, hs, rfl, hl, fun p hp => ?_⟩
    have U := Up.new (K := K) (o := .dK (mp ch.names fun n => .int (hs n))) hp
    exact ⟨_, rfl, c, p, st, ch, hs, rfl, hc.up U, ok, upd_same, hst, U.tabs tab, fun H' u' il => q H' (U.trans u') il⟩
def spWat (K : Frg) : Sp := fun vs H Q _ => ∃ (a c : Addr) (st : Str) (ch : Ch) (hs : Str → Int), vs = [.ref a, .str st] ∧ LandC K H a c ch hs ∧ ch.Ok ∧ st ∈ ch.names ∧ Tabs (TT K) H ∧ ∀ H', Up K H H' → Q (oI (waterF ch hs st)) H'
theorem sc_Wat : FnScope ["land", "name", "level"] ["land", "name"] (defScope s_water) := sc_of
theorem c_water (t3 : T3 K mg) (b3 : TBs K mg base) : Cal P w K mg base 6 "water" (spWat K) [] := by
  have t := t3.z.t
  refine cal_of t.d_water sc_Wat (fun _ _ _ _ _ _ us hl => match us, hl with | [_, _], _ => rfl) (fun vs H Q E h => ?_) (fun f cdv A outer s H vs Q E hr h => ?_)
  · obtain ⟨a, _, _, _, _, rfl, _⟩ := h
    rfl
  · obtain ⟨a, c, st, ch, hs, rfl, hl, ok, hst, tab, q⟩ := h
    have nd := sc_Wat.nd
    refine ⟨_, pss_cons (sv 2 nd (pe_c (c_water_level t3 b3) hr (by decide) (pa_cons (pv 0) (pa_cons (pv 1) pa_nil))))
      (pss_one (ps_ret (pe_ifExp (pt_cmp (pc_isN (pv 2))) pe_non (pe_op op_sub (pv 2) (pe_callI (m_LCall t) t3.z.fiL (hr.mono (by decide)) (pv 0) (pa_cons (pv 1) pa_nil)))))), ?_⟩
    refine ⟨_, rfl, _, rfl, a, c, st, ch, hs, rfl, hl, ok, hst, tab, fun H' u' il => ?_⟩
    have qq := q H' u'
    unfold waterF at qq
    rw [oI_map] at qq
    cases hlv : LV ch hs st with
    | none =>
      rw [hlv] at qq
      exact ⟨_, rfl, _, rfl, qq⟩
    | some l =>
      rw [hlv] at qq
      obtain ⟨dx, d, e, hc, hd⟩ := id (hl.up u')
      exact ⟨_, rfl, _, rfl, _, rfl, _, rfl, a, rfl, _, rfl, dx, _, e, ⟨a, c, st, ch, hs, rfl, hl.up u', hst, _, _, rfl, rfl, qq⟩⟩
end
end SH
/-! W17 -/
set_option Elab.async false
set_option linter.all false
set_option maxRecDepth 100000
set_option maxHeartbeats 1000000
namespace SH
open PySem PySem.Spec PyProof.Rows L2 LamX
theorem oV_filter {f : Str → Option Int} : ∀ ns : List Str, ns.filterMap (fun n => if f n = none then none else some (oI (f n))) = (ns.filterMap f).map V.int
  | [] => rfl
  | n :: ns => by
    rw [List.filterMap_cons, List.filterMap_cons, oV_filter ns]
    cases f n with
    | none => rfl
    | some i => rfl
theorem fm_filter {p : Str → Bool} : ∀ ns : List Str, ns.filterMap (fun n => if p n = true then some (V.str n) else none) = (ns.filter p).map V.str
  | [] => rfl
  | n :: ns => by
    rw [List.filterMap_cons, List.filter_cons, fm_filter ns]
    by_cases c : p n = true
    · rw [if_pos c, if_pos c]; rfl
    · rw [if_neg c, if_neg c]
section
variable {P : Program} {w : World} {K : Frg} {mg : Str → Option Value} {base : Heap}
def spTot (K : Frg) : Sp := fun vs H Q _ => ∃ (a c : Addr) (ch : Ch) (hs : Str → Int), vs = [.ref a] ∧ LandC K H a c ch hs ∧ ch.Ok ∧ Tabs (TT K) H ∧ ∀ H', Up K H H' → Q (.int (totalF ch hs)) H'
theorem sc_Tot : FnScope ["land", "every", "name", "deep"] ["land"] (defScope s_total_water) := sc_of
theorem c_total (t3 : T3 K mg) (b3 : TBs K mg base) : Cal P w K mg base 7 "total_water" (spTot K) [] := by
  have t := t3.z.t
  refine cal_of t.d_total_water sc_Tot (fun _ _ _ _ _ _ us hl => match us, hl with | [_], _ => rfl) (fun vs H Q E h => ?_) (fun f cdv A outer s H vs Q E hr h => ?_)
  · obtain ⟨a, _, _, _, rfl, _⟩ := h
    rfl
  · obtain ⟨a, c, ch, hs, rfl, hl, ok, tab, q⟩ := h
    have nd := sc_Tot.nd
    have few := ok.few
    obtain ⟨dx, d, e, hc, hd⟩ := id hl
    obtain ⟨cx, _, _, _, _, ec, _⟩ := id hc
    refine ⟨_, pss_cons (ps_expr (pe_c (c_need_land t) hr (by decide) (pa_cons (pv 0) pa_nil)))
      (pss_cons (slc1t 1 2 rfl nd (pi_list (pe_mt0 (m_Names t) hr (by decide) (pe_fld (pv 0) rfl))) (fun _ _ _ _ _ => pts_nil) (fun _ _ _ _ _ => pe_c (c_water t3 b3) hr (by decide) (pa_cons (pv 0) (pa_cons (pv 2) pa_nil))) (bk ["land", "every", "name", "deep"] s_total_water))
      (pss_one (ps_ret (cb (cr_sum rfl) t.n_sum (pa_cons (lc1t 3 rfl nd (pi_list (pv 1)) (fun _ _ _ _ _ => pt_cmp (pc_notN (pv 3))) (fun _ _ _ _ _ => pv 3) (bk ["land", "every", "name", "deep"] s_total_water)) pa_nil))))), ?_⟩
    refine ⟨_, rfl, a, dx, _, rfl, e, ?_⟩
    refine ⟨_, rfl, a, _, dx, _, _, rfl, e, t.clL, t.aL_chart, rfl, c, cx, _, rfl, ec, rfl, c, ch, rfl, hc, fun p hp => ⟨p, rfl, ⟨_, SqL.of upd_same⟩, fun D hD => lcF (K := K) walk_names hD (fun n => some (oI (waterF ch hs n))) (by omega) (fun H u => SqL.of (u.at upd_same)) (fun i n x H2 H' Pn Py hn u hy kn ky => ?_) (fun H2 u e2 => ?_)⟩⟩
    · obtain ⟨rfl, n', hn', rfl⟩ := hy
      obtain rfl : n = n' := Option.some.inj (hn.symm.trans hn')
      have U := (Up.new (K := K) hp).trans u
      exact ⟨rfl, _, rfl, _, rfl, a, c, n, ch, hs, rfl, hl.up U, ok, List.mem_of_getElem? hn, U.tabs tab, fun H3 u3 => ky _ H3 u3 rfl⟩
    · have U2 := (Up.new (K := K) hp).trans u
      rw [List.filterMap_eq_map'] at e2
      refine ⟨_, rfl, D, rfl, ⟨_, SqL.of e2⟩, fun D2 hD2 => lcF (K := K) (zs := ch.names.map fun n => oI (waterF ch hs n)) walk_list hD2 (fun v => if v = .non then none else some v) (by rw [List.length_map]; omega) (fun H u => SqL.of (u.at e2)) (fun i v x H3 H' Pn Py hv u3 hy kn ky => ?_) (fun H3 u3 e3 => ?_)⟩
      · obtain ⟨rfl, hx⟩ := hy
        obtain rfl : v = x := Option.some.inj (hv.symm.trans hx)
        refine ⟨rfl, _, rfl, _, rfl, ?_⟩
        by_cases c : v = .non
        · rw [c]
          exact kn _ Up.rfl' (by rw [c]; rfl)
        · rw [decide_eq_false c]
          exact ⟨_, rfl, ky _ _ Up.rfl' (if_neg c)⟩
      · refine ⟨D2, ch.names.filterMap (waterF ch hs), rfl, SqL.of ?_, q _ (U2.trans u3)⟩
        rw [e3, List.filterMap_map, ← oV_filter]
        congr 2
        refine congrArg (fun f => List.filterMap f ch.names) (funext fun n => ?_)
        show (if oI (waterF ch hs n) = .non then none else some (oI (waterF ch hs n))) = _
        cases waterF ch hs n with
        | none => rfl
        | some i => rfl
/-- the dry land -/
def spDry (K : Frg) : Sp := fun vs H Q _ => ∃ (c : Addr) (ch : Ch), vs = [.ref c] ∧ ChartAt K H c ch ∧ ch.Ok ∧ Tabs (TT K) H ∧ ∀ H' a, Up K H H' → LandC K H' a c ch (dryH ch) → Q (.ref a) H'
theorem sc_Dry : FnScope ["chart", "values", "heights", "name", "level"] ["chart"] (defScope s_dry_land) := sc_of
theorem c_dry (t3 : T3 K mg) (b3 : TBs K mg base) : Cal P w K mg base 6 "dry_land" (spDry K) [] := by
  have t := t3.z.t
  refine cal_of t.d_dry_land sc_Dry (fun _ _ _ _ _ _ us hl => match us, hl with | [_], _ => rfl) (fun vs H Q E h => ?_) (fun f cdv A outer s H vs Q E hr h => ?_)
  · obtain ⟨a, _, rfl, _⟩ := h
    rfl
  · obtain ⟨c, ch, rfl, hc, ok, tab, q⟩ := h
    have nd := sc_Dry.nd
    have hu := hu_of hr
    have few := ok.few
    obtain ⟨cx, _, _, _, _, ec, _⟩ := id hc
    refine ⟨_, pss_cons (ps_expr (pe_c (c_need_chart t) hr (by decide) (pa_cons (pv 0) pa_nil)))
      (pss_cons (sv 1 nd (pe_c (c_low_bounds t3.z) hr (by decide) (pa_cons (pv 0) pa_nil)))
      (pss_cons (sv 2 nd (pe_c (c_high_bounds t3.z) hr (by decide) (pa_cons (pv 0) pa_nil)))
      (pss_cons (ps_for PassesOwn.never rfl (pi_list (pe_mt0 (m_Names t) hr (by decide) (pv 0))) (gv 3 nd)
        (pss_cons (sv 4 nd (pe_c (c_level_by t3 b3) hr (by decide) (pa_cons (pv 0) (pa_cons (pv 1) (pa_cons (pv 3) pa_nil)))))
        (pss_one (ps_if (pt_cmp (pc_notN (pv 4))) (pss_one (ps_dput hu (pv 2) (pv 3) (cb (call_min2 rfl) t.n_min (pa_cons (pe_dget hu (pv 2) (pv 3) (fun _ _ => rfl)) (pa_cons (pv 4) pa_nil))) rfl)) pss_nil))))
      (pss_one (ps_ret (pe_mk (m_LInit t3.z) t.mkL t.kL t.gL hr (by decide) (pa_cons (pv 0) (pa_cons (pv 2) pa_nil)))))))), ?_⟩
    refine ⟨_, rfl, c, cx, _, rfl, ec, ?_⟩
    refine ⟨_, rfl, c, ch, rfl, hc, ok, fun H1 dl u1 fl el => ?_⟩
    refine ⟨_, rfl, c, ch, rfl, hc.up u1, ok, fun H2 dh u2 fh eh => ?_⟩
    have U2 := u1.trans u2
    have fr2 : Fr H dh := (Fr.of fh).back u1
    refine ⟨_, rfl, c, cx, _, rfl, U2.at ec, rfl, c, ch, rfl, hc.up U2, fun p hp => ⟨p, rfl, ⟨_, SqL.of upd_same⟩, for_it walk_names (fun i σ H' => ∃ o3 o4, σ = [some (.ref c), some (.ref dl), some (.ref dh), o3, o4] ∧ Up K H H' ∧ H' p = some (.lst (ch.names.map V.str)) ∧ H' dl = some (.dK (mp ch.names fun n => .int (ch.low n))) ∧
      H' dh = some (.dK (mp ch.names fun n => .int (if n ∈ ch.names.take i then dryH ch n else ch.high n))))
      ⟨_, _, rfl, U2.add hp, upd_same, ext_new hp _ _ (u2.at el), ?_⟩ (fun i σ H' _ h => let ⟨_, _, _, _, e, _⟩ := h; SqL.of e) (fun i x σ H3 H4 hi h hy => ?_) (fun σ H3 h => ?_)⟩⟩
    · rw [ext_new hp _ _ eh]
      congr 2
    · obtain ⟨o3, o4, rfl, U3, ep, el3, eh3⟩ := h
      obtain ⟨rfl, n, hn, rfl⟩ := hy
      have hm := List.mem_of_getElem? hn
      have hnew := nodup_take_new ok.nd hn
      refine ⟨_, rfl, _, rfl, _, rfl, c, dl, n, ch, ch.low, rfl, hc.up U3, ok, el3, hm, U3.tabs tab, fun H5 u5 il => ?_⟩
      have U5 := U3.trans u5
      have eh5 := u5.at eh3
      have tk : ∀ v, (v = dryH ch n) → (mp ch.names fun m => if m = n then V.int v else V.int (if m ∈ ch.names.take i then dryH ch m else ch.high m)) = mp ch.names fun m => V.int (if m ∈ ch.names.take (i + 1) then dryH ch m else ch.high m) := fun v hv => mp_congr fun m _ => by
        have mt : m ∈ ch.names.take (i + 1) ↔ m ∈ ch.names.take i ∨ m = n := by rw [take_next hn, List.mem_append, List.mem_singleton]
        by_cases c1 : m = n
        · rw [if_pos c1, if_pos (mt.mpr (.inr c1)), hv, c1]
        · rw [if_neg c1]
          by_cases c2 : m ∈ ch.names.take i
          · rw [if_pos c2, if_pos (mt.mpr (.inl c2))]
          · rw [if_neg c2, if_neg (fun z => (mt.mp z).elim c2 c1)]
      cases hlv : LV ch ch.low n with
      | none =>
        refine ⟨_, rfl, _, rfl, ⟨_, _, rfl, U5, u5.at ep, u5.at el3, ?_⟩⟩
        rw [eh5]
        congr 2
        refine mp_congr fun m _ => ?_
        have mt : m ∈ ch.names.take (i + 1) ↔ m ∈ ch.names.take i ∨ m = n := by rw [take_next hn, List.mem_append, List.mem_singleton]
        by_cases c1 : m = n
        · rw [if_pos (mt.mpr (.inr c1)), c1, if_neg hnew]
          unfold dryH
          rw [hlv]
        · by_cases c2 : m ∈ ch.names.take i
          · rw [if_pos c2, if_pos (mt.mpr (.inl c2))]
          · rw [if_neg c2, if_neg (fun z => (mt.mp z).elim c2 c1)]
      | some l =>
        refine ⟨_, rfl, _, rfl, ⟨_, rfl, _, rfl, dh, _, rfl, dget_mp (f := fun n => V.int (if n ∈ ch.names.take i then dryH ch n else ch.high n)) (.inl eh5) hm, _, rfl, _, l, rfl, ?_⟩⟩
        refine ⟨_, rfl, _, rfl, dh, _, rfl, dput_mp eh5 hm (by omega), ?_⟩
        rw [if_neg hnew]
        have ndl : dl ≠ dh := fun z => by rw [← z, el] at fh; cases fh
        refine ⟨_, _, rfl, U5.wrF fr2 eh5 trivial, ?_, ?_, ?_⟩
        · rw [upd_ne (ne_of (u5.at ep) eh5 (fun z => nomatch z))]; exact u5.at ep
        · rw [upd_ne ndl]; exact u5.at el3
        · rw [upd_same, tk _ (by unfold dryH; rw [hlv])]
    · obtain ⟨o3, o4, rfl, U3, ep, el3, eh3⟩ := h
      rw [List.take_length] at eh3
      have eh4 : H3 dh = some (.dK (mp ch.names fun n => .int (dryH ch n))) := by
        rw [eh3]; congr 2; exact mp_congr fun n hn => by rw [if_pos hn]
      refine ⟨_, rfl, _, rfl, fun x dx hx hdx hne => ⟨x, dx, c, dh, H3, ch, dryH ch, rfl, rfl, hx, hdx, hne, hc.up U3, ok, eh4, fun n hn => ?_, fun H' u' hl => ⟨rfl, q H' x (U3.trans u') hl⟩⟩⟩
      obtain ⟨g1, g2, g3⟩ := ok.rng n hn
      unfold dryH
      cases hlv : LV ch ch.low n with
      | none => exact ⟨g3, Int.le_refl _⟩
      | some l =>
        have : ch.low n ≤ l := by
          have : IsLv ch ch.low n (some l) := by
            rw [← hlv]
            unfold LV at hlv ⊢
            split at hlv
            · rename_i h
              rw [dif_pos h]
              exact Classical.choose_spec h
            · cases hlv
          exact this.ge
        show ch.low n ≤ (if l < ch.high n then l else ch.high n) ∧ (if l < ch.high n then l else ch.high n) ≤ ch.high n
        by_cases c : l < ch.high n
        · rw [if_pos c]; omega
        · rw [if_neg c]; omega
end
end SH
/-! W18 -/
set_option Elab.async false
set_option linter.all false
set_option maxRecDepth 100000
set_option maxHeartbeats 1000000
namespace SH
open PySem PySem.Spec PyProof.Rows L2 LamX
section
variable {P : Program} {w : World} {K : Frg} {mg : Str → Option Value} {base : Heap}
theorem walk_itm {d : Addr} {o : Obj} {f : Str → V} (ns : List Str) : Walk (Iti d o (mp ns f)) ns.length (fun H => H d = some (.frz o (.dK (mp ns f)))) (fun i H x H' => ∃ T n, ns[i]? = some n ∧ x = .ref T ∧ H T = none ∧ H' = upd H T (.tup [.str n, f n])) := by
  rw [← mp_len (ns := ns) (f := f)]
  exact walk_items.mono (fun _ h => h) fun i H x H' hi _ y => by
    obtain ⟨T, a, b, h1, h2, h3, h4, h5⟩ := y
    obtain ⟨n, hn⟩ : ∃ n, ns[i]? = some n := ⟨_, List.getElem?_eq_getElem (by rw [mp_len] at hi; exact hi)⟩
    have hm : (mp ns f)[i]? = some (Sum.inr n, f n) := by unfold mp; rw [List.getElem?_map, hn]; rfl
    have h4 : Option.map (fun kv => kV kv.1) (mp ns f)[i]? = some a := h4
    have h5 : Option.map Prod.snd (mp ns f)[i]? = some b := h5
    rw [hm] at h4 h5
    cases h4
    cases h5
    exact ⟨T, n, hn, h1, h2, h3⟩
/-- a question about a place of a chart that answers an int or None -/
def spCI (K : Frg) (F : Ch → Str → V) : Sp := fun vs H Q _ => ∃ (c : Addr) (st : Str) (ch : Ch), vs = [.ref c, .str st] ∧ ChartAt K H c ch ∧ ch.Ok ∧ st ∈ ch.names ∧ Tabs (TT K) H ∧ ∀ H', Up K H H' → Q (F ch st) H'
theorem sc_LW : FnScope ["chart", "name", "level"] ["chart", "name"] (defScope s_least_water) := sc_of
theorem c_least_water (t3 : T3 K mg) (b3 : TBs K mg base) : Cal P w K mg base 5 "least_water" (spCI K fun ch n => oI (leastW ch n)) [] := by
  have t := t3.z.t
  refine cal_of t.d_least_water sc_LW (fun _ _ _ _ _ _ us hl => match us, hl with | [_, _], _ => rfl) (fun vs H Q E h => ?_) (fun f cdv A outer s H vs Q E hr h => ?_)
  · obtain ⟨a, _, _, rfl, _⟩ := h
    rfl
  · obtain ⟨c, st, ch, rfl, hc, ok, hst, tab, q⟩ := h
    have nd := sc_LW.nd
    obtain ⟨cx, _, _, _, _, ec, _⟩ := id hc
    refine ⟨_, pss_cons (ps_expr (pe_c (c_need_chart t) hr (by decide) (pa_cons (pv 0) pa_nil)))
      (pss_cons (ps_expr (pe_c (c_need_place t) hr (by decide) (pa_cons (pv 0) (pa_cons (pv 1) pa_nil))))
      (pss_cons (sv 2 nd (pe_c (c_level_by t3 b3) hr (by decide) (pa_cons (pv 0) (pa_cons (pe_c (c_low_bounds t3.z) hr (by decide) (pa_cons (pv 0) pa_nil)) (pa_cons (pv 1) pa_nil)))))
      (pss_one (ps_ret (pe_ifExp (pt_cmp (pc_isN (pv 2))) pe_non (cb (call_max2 rfl) t.n_max (pa_cons pe_int (pa_cons (pe_op op_sub (pv 2) (pe_fld (pe_getC (m_Get t) t3.z.fiC (hr.mono (by decide)) (pv 0) (pv 1)) rfl)) pa_nil)))))))), ?_⟩
    refine ⟨_, rfl, c, cx, _, rfl, ec, ?_⟩
    refine ⟨_, rfl, _, rfl, c, st, ch, rfl, hc, hst, ?_⟩
    refine ⟨_, rfl, _, rfl, c, ch, rfl, hc, ok, fun H1 dl u1 fl el => ⟨_, rfl, c, dl, st, ch, ch.low, rfl, hc.up u1, ok, el, hst, u1.tabs tab, fun H2 u2 il => ?_⟩⟩
    have U2 := u1.trans u2
    have qq : Q (oI (leastW ch st)) H2 := q H2 U2
    unfold leastW at qq
    rw [oI_map] at qq
    cases hlv : LV ch ch.low st with
    | none =>
      rw [hlv] at qq
      exact ⟨_, rfl, _, rfl, qq⟩
    | some l =>
      rw [hlv] at qq
      exact ⟨_, rfl, _, rfl, _, rfl, _, rfl, _, rfl, c, cx, _, rfl, U2.at ec, c, st, ch, rfl, hc.up U2, hst, fun b ⟨db, eb⟩ => ⟨b, _, db, _, _, rfl, eb, t.clB, t.aB_high, rfl, _, _, rfl, rfl, 0, _, rfl, qq⟩⟩
def spWet (K : Frg) : Sp := fun vs H Q _ => ∃ (c : Addr) (st : Str) (ch : Ch), vs = [.ref c, .str st] ∧ ChartAt K H c ch ∧ ch.Ok ∧ st ∈ ch.names ∧ ∀ H' a, Up K H H' → LandC K H' a c ch (wetH ch st) → Q (.ref a) H'
theorem sc_Wet : FnScope ["chart", "name"] ["chart", "name"] (defScope s_wet_land) := sc_of
theorem c_wet (z : T2 K mg) : Cal P w K mg base 6 "wet_land" (spWet K) [] := by
  have t := z.t
  refine cal_of t.d_wet_land sc_Wet (fun _ _ _ _ _ _ us hl => match us, hl with | [_, _], _ => rfl) (fun vs H Q E h => ?_) (fun f cdv A outer s H vs Q E hr h => ?_)
  · obtain ⟨a, _, _, rfl, _⟩ := h
    rfl
  · obtain ⟨c, st, ch, rfl, hc, ok, hst, q⟩ := h
    have few := ok.few
    obtain ⟨cx, _, _, _, _, ec, _⟩ := id hc
    refine ⟨_, pss_cons (ps_expr (pe_c (c_need_chart t) hr (by decide) (pa_cons (pv 0) pa_nil)))
      (pss_cons (ps_expr (pe_c (c_need_place t) hr (by decide) (pa_cons (pv 0) (pa_cons (pv 1) pa_nil))))
      (pss_one (ps_ret (pe_mk (m_LInit z) t.mkL t.kL t.gL hr (by decide) (pa_cons (pv 0) (pa_cons (pe_star (pe_c (c_high_bounds z) hr (by decide) (pa_cons (pv 0) pa_nil)) (pv 1) (pe_fld (pe_getC (m_Get t) z.fiC (hr.mono (by decide)) (pv 0) (pv 1)) rfl)) pa_nil)))))), ?_⟩
    refine ⟨_, rfl, c, cx, _, rfl, ec, ?_⟩
    refine ⟨_, rfl, _, rfl, c, st, ch, rfl, hc, hst, ?_⟩
    refine ⟨_, rfl, fun p hp => ?_⟩
    have U0 : Up K H (upd H p (.dK [])) := .new hp
    refine ⟨_, rfl, c, ch, rfl, hc.up U0, ok, fun H1 dh u1 fh eh => ?_⟩
    have U1 := U0.trans u1
    have ep1 := u1.at (upd_same (H := H) (a := p) (o := .dK []))
    have nep : dh ≠ p := fun z => by rw [z, upd_same] at fh; cases fh
    refine ⟨dh, _, rfl, ep1, nep, .inl eh, by rw [mp_len]; exact line8' (by omega), fun q' hq' => ?_⟩
    rw [mergeK_nil ok.nd] at hq' ⊢
    have npq : p ≠ q' := fun z => by rw [← z, upd_same] at hq'; cases hq'
    have hq1 : H1 q' = none := by rw [upd_ne (Ne.symm npq)] at hq'; exact hq'
    have U2 := U1.wr (o := .dK (mp ch.names fun n => .int (ch.high n))) hp ep1 trivial
    have U3 := U2.add (o := .dK []) hq'
    have frq : Fr H q' := (Fr.of hq1).back U1
    refine ⟨_, rfl, _, rfl, _, rfl, c, cx, _, rfl, U3.at ec, c, st, ch, rfl, hc.up U3, hst, fun b ⟨db, eb⟩ => ⟨b, _, db, _, _, rfl, eb, t.clB, t.aB_low, rfl, .inr st, rfl, (upd_ne npq).trans upd_same, upd_same, ?_⟩⟩
    have U4 := U3.wrF (o := .dK [(Sum.inr st, .int (ch.low st))]) frq upd_same trivial
    rw [putK_old hst]
    generalize hH5 : upd (upd (upd (upd H1 p (.dK (mp ch.names fun n => .int (ch.high n)))) q' (.dK [])) q' (.dK [(Sum.inr st, .int (ch.low st))])) p (.dK (mp ch.names fun m => if m = st then .int (ch.low st) else .int (ch.high m))) = H5
    have U5 : Up K H H5 := by
      rw [← hH5]
      exact U4.wr hp ((upd_ne npq).trans ((upd_ne npq).trans upd_same)) trivial
    have e5 : H5 p = some (.dK (mp ch.names fun n => .int (wetH ch st n))) := by
      rw [← hH5, upd_same]
      congr 2
      refine mp_congr fun m _ => ?_
      unfold wetH setF
      by_cases c : m = st
      · rw [if_pos c, if_pos c]
      · rw [if_neg c, if_neg c]
    refine fun x dx hx hdx hne => ⟨x, dx, c, p, H5, ch, wetH ch st, rfl, rfl, hx, hdx, hne, hc.up U5, ok, e5, fun n hn => ?_, fun H' u' hl => ⟨rfl, q H' x (U5.trans u') hl⟩⟩
    obtain ⟨g1, g2, g3⟩ := ok.rng n hn
    show ch.low n ≤ (if n = st then ch.low st else ch.high n) ∧ (if n = st then ch.low st else ch.high n) ≤ ch.high n
    by_cases c : n = st
    · subst c; rw [if_pos rfl]; exact ⟨Int.le_refl _, g3⟩
    · rw [if_neg c]; exact ⟨g3, Int.le_refl _⟩
theorem sc_GW : FnScope ["chart", "name"] ["chart", "name"] (defScope s_greatest_water) := sc_of
theorem c_greatest_water (t3 : T3 K mg) (b3 : TBs K mg base) : Cal P w K mg base 7 "greatest_water" (spCI K fun ch n => oI (waterF ch (wetH ch n) n)) [] := by
  have t := t3.z.t
  refine cal_of t.d_greatest_water sc_GW (fun _ _ _ _ _ _ us hl => match us, hl with | [_, _], _ => rfl) (fun vs H Q E h => ?_) (fun f cdv A outer s H vs Q E hr h => ?_)
  · obtain ⟨a, _, _, rfl, _⟩ := h
    rfl
  · obtain ⟨c, st, ch, rfl, hc, ok, hst, tab, q⟩ := h
    refine ⟨_, pss_one (ps_ret (pe_c (c_water t3 b3) hr (by decide) (pa_cons (pe_c (c_wet t3.z) hr (by decide) (pa_cons (pv 0) (pa_cons (pv 1) pa_nil))) (pa_cons (pv 1) pa_nil)))), ?_⟩
    exact ⟨_, rfl, _, rfl, c, st, ch, rfl, hc, ok, hst, fun H' a u hl => ⟨_, rfl, a, c, st, ch, _, rfl, hl, ok, hst, u.tabs tab, fun H2 u2 => q H2 (u.trans u2)⟩⟩
/-- a question about a chart -/
def spC (K : Frg) (F : Ch → V) : Sp := fun vs H Q _ => ∃ (c : Addr) (ch : Ch), vs = [.ref c] ∧ ChartAt K H c ch ∧ ch.Ok ∧ Tabs (TT K) H ∧ ∀ H', Up K H H' → Q (F ch) H'
theorem sc_LT : FnScope ["chart"] ["chart"] (defScope s_least_total) := sc_of
theorem c_least_total (t3 : T3 K mg) (b3 : TBs K mg base) : Cal P w K mg base 8 "least_total" (spC K fun ch => .int (totalF ch (dryH ch))) [] := by
  have t := t3.z.t
  refine cal_of t.d_least_total sc_LT (fun _ _ _ _ _ _ us hl => match us, hl with | [_], _ => rfl) (fun vs H Q E h => ?_) (fun f cdv A outer s H vs Q E hr h => ?_)
  · obtain ⟨a, _, rfl, _⟩ := h
    rfl
  · obtain ⟨c, ch, rfl, hc, ok, tab, q⟩ := h
    refine ⟨_, pss_one (ps_ret (pe_c (c_total t3 b3) hr (by decide) (pa_cons (pe_c (c_dry t3 b3) hr (by decide) (pa_cons (pv 0) pa_nil)) pa_nil))), ?_⟩
    exact ⟨_, rfl, c, ch, rfl, hc, ok, tab, fun H' a u hl => ⟨a, c, ch, _, rfl, hl, ok, u.tabs tab, fun H2 u2 => q H2 (u.trans u2)⟩⟩
/-- a list of places of a chart -/
def spCL (K : Frg) (F : Ch → List Str) : Sp := fun vs H Q _ => ∃ (c : Addr) (ch : Ch), vs = [.ref c] ∧ ChartAt K H c ch ∧ ch.Ok ∧ Tabs (TT K) H ∧ ∀ H' a, Up K H H' → H' a = some (.lst ((F ch).map V.str)) → Q (.ref a) H'
abbrev nSW : List Str := ["chart", "least", "name", "deep"]
theorem sc_SW : FnScope nSW ["chart"] (defScope s_surely_wet) := sc_of
theorem c_surely_wet (t3 : T3 K mg) (b3 : TBs K mg base) : Cal P w K mg base 6 "surely_wet" (spCL K sureF) [] := by
  have t := t3.z.t
  refine cal_of t.d_surely_wet sc_SW (fun _ _ _ _ _ _ us hl => match us, hl with | [_], _ => rfl) (fun vs H Q E h => ?_) (fun f cdv A outer s H vs Q E hr h => ?_)
  · obtain ⟨a, _, rfl, _⟩ := h
    rfl
  · obtain ⟨c, ch, rfl, hc, ok, tab, q⟩ := h
    have nd := sc_SW.nd
    have few := ok.few
    obtain ⟨cx, _, _, _, _, ec, _⟩ := id hc
    refine ⟨_, pss_cons (ps_expr (pe_c (c_need_chart t) hr (by decide) (pa_cons (pv 0) pa_nil)))
      (pss_cons (sdc1 1 2 rfl nd (pi_list (pe_mt0 (m_Names t) hr (by decide) (pv 0))) (fun _ _ _ _ _ => pv 2) (fun _ _ _ _ _ => pe_c (c_least_water t3 b3) hr (by decide) (pa_cons (pv 0) (pa_cons (pv 2) pa_nil))) (bk nSW s_surely_wet))
      (pss_one (ps_ret (pe_lock (pe_lc (own := [("name", 2), ("deep", 3)]) (g := gTup K 2 (gCons (gName 2) (gCons (gName 3) gNil))) rfl nd (pi_items (pv 1)) (bk nSW s_surely_wet)
        (fun _ _ _ _ _ => pg_tup rfl (pgs_cons (pg_name (i := 2) nd rfl (Or.inl rfl)) (pgs_cons (pg_name (i := 3) nd rfl (Or.inl rfl)) pgs_nil)))
        (fun _ _ _ _ _ => pts_one (PW.pt (pw_and (pt_cmp (pc_notN (pv 3))) (pw_and1 (pt_cmpR op_gt (pv 3) pe_int (nomark _)))))) (fun _ _ _ _ _ => pv 2)))))), ?_⟩
    refine ⟨_, rfl, c, cx, _, rfl, ec, ?_⟩
    refine ⟨_, rfl, c, cx, _, rfl, ec, rfl, c, ch, rfl, hc, fun p hp => ⟨p, rfl, ⟨_, SqL.of upd_same⟩, fun D hD => dcF (K := K) ok.nd walk_names hD (fun n => oI (leastW ch n)) (by omega) (fun H u => SqL.of (u.at upd_same)) (fun i n x H2 H' Py hn u hy k => ?_) (fun H2 u e => ?_)⟩⟩
    · obtain ⟨rfl, n', hn', rfl⟩ := hy
      obtain rfl : n = n' := Option.some.inj (hn.symm.trans hn')
      have U := (Up.new (K := K) hp).trans u
      exact ⟨rfl, _, rfl, _, rfl, _, rfl, c, n, ch, rfl, hc.up U, ok, List.mem_of_getElem? hn, U.tabs tab, fun H3 u3 => k H3 u3⟩
    · have U2 := (Up.new (K := K) hp).trans u
      refine ⟨D, _, e, trivial, fun od => ⟨_, rfl, D, od, _, rfl, upd_same, fun F hF => lcF (K := K) (walk_itm ch.names) hF (fun n => if (match leastW ch n with | none => false | some w => decide (0 < w)) = true then some (.str n) else none) (by omega) (fun H u => u.at upd_same) (fun i n x H3 H' Pn Py hn u3 hy kn ky => ?_) (fun H3 u3 e3 => ?_)⟩⟩
      · obtain ⟨T, n', hn', rfl, hT, rfl⟩ := hy
        obtain rfl : n = n' := Option.some.inj (hn.symm.trans hn')
        have ut : Up K H3 (upd H3 T (.tup [.str n, oI (leastW ch n)])) := .new hT
        refine ⟨T, _, rfl, SqT.of upd_same, rfl, _, _, rfl, _, _, rfl, rfl, rfl, _, rfl, ?_⟩
        cases hl : leastW ch n with
        | none =>
          rw [hl] at ut
          exact ⟨_, rfl, kn _ ut (by rw [hl]; rfl)⟩
        | some l =>
          rw [hl] at ut
          refine ⟨_, rfl, _, rfl, _, _, rfl, rfl, _, rfl, ?_⟩
          refine ite2 (fun h => ⟨_, rfl, ky _ _ ut ?_⟩) (fun h => kn _ ut ?_)
          · rw [hl]; exact if_pos h
          · rw [hl]; exact if_neg h
      · refine ⟨u3.at upd_same, ?_⟩
        have hFD : F ≠ D := fun z => by rw [z, upd_same] at hF; cases hF
        refine q _ F (U2.trans (Up.lock e trivial u3)) ?_
        rw [upd_ne hFD, e3, fm_filter]; rfl
end
end SH
/-! W19 -/
set_option Elab.async false
set_option linter.all false
set_option maxRecDepth 100000
set_option maxHeartbeats 1000000
namespace SH
open PySem PySem.Spec PyProof.Rows L2 LamX
/-- what escape answers -/
def IsEsc (ch : Ch) (n : Str) (r : Option (List Str)) : Prop := ∃ f : SS Str, Run (nbr ch) ch.low slt (SH.start ch.low n) f ∧ ((r = none ∧ ∀ o ∈ ch.drains, f.lev o = none) ∨
  ∃ o l way, o ∈ ch.drains ∧ f.lev o = some l ∧ (∀ o' ∈ ch.drains, ∀ l', f.lev o' = some l' → (l, o) = (l', o') ∨ klt (l, o) (l', o')) ∧ BC f.bef (o :: way) ∧ r = some (o :: way).reverse)
theorem klt_asymm {a b : Kd} (h : klt a b) (k : klt b a) : False := by
  have := klt_trans h k
  rcases this with z | ⟨_, z⟩
  · omega
  · exact slt_irr _ z
theorem IsEsc.uniq {ch : Ch} {n : Str} {r r' : Option (List Str)} (h : IsEsc ch n r) (k : IsEsc ch n r') : r = r' := by
  obtain ⟨f, run, h⟩ := h
  obtain ⟨g, run', k⟩ := k
  cases run.det (fun a b h k => slt_asymm h k) run'
  rcases h with ⟨rfl, h⟩ | ⟨o, l, w, h1, h2, h3, h4, rfl⟩
  · rcases k with ⟨rfl, _⟩ | ⟨o, l, w, k1, k2, _⟩
    · rfl
    · rw [h o k1] at k2; cases k2
  · rcases k with ⟨_, k⟩ | ⟨o', l', w', k1, k2, k3, k4, rfl⟩
    · rw [k o h1] at h2; cases h2
    · have e : (l, o) = (l', o') := by
        rcases h3 o' k1 l' k2 with z | z
        · exact z
        · rcases k3 o h1 l h2 with y | y
          · exact y.symm
          · exact (klt_asymm z y).elim
      cases e
      rw [BC.uniq h4 k4]
theorem kd_tot (a b : Kd) : a = b ∨ klt a b ∨ klt b a := by
  rcases klt_tri a b with h | h | h
  · exact .inr (.inl h)
  · exact .inl h
  · exact .inr (.inr h)
section
variable {P : Program} {w : World} {K : Frg} {mg : Str → Option Value} {base : Heap}
theorem sc_NW : FnScope ["chart", "name"] ["chart"] (defScope s_never_wet) := sc_of
theorem c_never_wet (t3 : T3 K mg) (b3 : TBs K mg base) : Cal P w K mg base 8 "never_wet" (spCL K neverF) [] := by
  have t := t3.z.t
  refine cal_of t.d_never_wet sc_NW (fun _ _ _ _ _ _ us hl => match us, hl with | [_], _ => rfl) (fun vs H Q E h => ?_) (fun f cdv A outer s H vs Q E hr h => ?_)
  · obtain ⟨a, _, rfl, _⟩ := h
    rfl
  · obtain ⟨c, ch, rfl, hc, ok, tab, q⟩ := h
    have nd := sc_NW.nd
    have few := ok.few
    obtain ⟨cx, _, _, _, _, ec, _⟩ := id hc
    refine ⟨_, pss_cons (ps_expr (pe_c (c_need_chart t) hr (by decide) (pa_cons (pv 0) pa_nil)))
      (pss_one (ps_ret (lc1t 1 rfl nd (pi_list (pe_mt0 (m_Names t) hr (by decide) (pv 0))) (fun _ _ _ _ _ => pt_cmpR op_eq (pe_c (c_greatest_water t3 b3) hr (by decide) (pa_cons (pv 0) (pa_cons (pv 1) pa_nil))) pe_int (nomark _)) (fun _ _ _ _ _ => pv 1) (bk ["chart", "name"] s_never_wet)))), ?_⟩
    refine ⟨_, rfl, c, cx, _, rfl, ec, ?_⟩
    refine ⟨_, rfl, c, cx, _, rfl, ec, rfl, c, ch, rfl, hc, fun p hp => ⟨p, rfl, ⟨_, SqL.of upd_same⟩, fun D hD => lcF (K := K) walk_names hD (fun n => if (decide (waterF ch (wetH ch n) n = some 0)) = true then some (.str n) else none) (by omega) (fun H u => SqL.of (u.at upd_same)) (fun i n x H2 H' Pn Py hn u hy kn ky => ?_) (fun H2 u e => ?_)⟩⟩
    · obtain ⟨rfl, n', hn', rfl⟩ := hy
      obtain rfl : n = n' := Option.some.inj (hn.symm.trans hn')
      have U := (Up.new (K := K) hp).trans u
      refine ⟨rfl, _, rfl, _, rfl, c, n, ch, rfl, hc.up U, ok, List.mem_of_getElem? hn, U.tabs tab, fun H3 u3 => ?_⟩
      show scal (oI (waterF ch (wetH ch n) n)) (V.int 0) = true ∧ ∃ k, V.bl (decide (oI (waterF ch (wetH ch n) n) = V.int 0)) = .bl k ∧ _
      cases hw : waterF ch (wetH ch n) n with
      | none => exact ⟨rfl, _, rfl, kn _ u3 (by rw [hw]; rfl)⟩
      | some i =>
        by_cases c : i = 0
        · subst c
          exact ⟨rfl, true, rfl, _, rfl, ky _ _ u3 (by rw [hw]; rfl)⟩
        · exact ⟨rfl, false, congrArg V.bl (decide_eq_false (show ¬ V.int i = V.int 0 from fun z => c (V.int.inj z))), kn _ u3 (by rw [hw, decide_eq_false (fun z => c (Option.some.inj z))]; rfl)⟩
    · refine q _ D ((Up.new hp).trans u) ?_
      rw [e, fm_filter]; rfl
def spEsc (K : Frg) : Sp := fun vs H Q _ => ∃ (c : Addr) (n : Str) (ch : Ch), vs = [.ref c, .str n] ∧ ChartAt K H c ch ∧ ch.Ok ∧ n ∈ ch.names ∧ Tabs (TT K) H ∧ (∀ H', Up K H H' → IsEsc ch n none → Q .non H') ∧
  ∀ H' a way, Up K H H' → Fr H a → H' a = some (.lst (way.map V.str)) → IsEsc ch n (some way) → Q (.ref a) H'
abbrev nEs : List Str := ["chart", "name", "levels", "before", "found", "outlet"]
theorem sc_Esc : FnScope nEs ["chart", "name"] (defScope s_escape) := sc_of
theorem c_escape (t3 : T3 K mg) (b3 : TBs K mg base) : Cal P w K mg base 5 "escape" (spEsc K) [] := by
  have t := t3.z.t
  refine cal_of t.d_escape sc_Esc (fun _ _ _ _ _ _ us hl => match us, hl with | [_, _], _ => rfl) (fun vs H Q E h => ?_) (fun f cdv A outer s H vs Q E hr h => ?_)
  · obtain ⟨a, _, _, rfl, _⟩ := h
    rfl
  · obtain ⟨c, n, ch, rfl, hc, ok, hn, tab, qn, qs⟩ := h
    have nd := sc_Esc.nd
    have hu := hu_of hr
    have h64 := hr.units
    have dfew := ok.dfew
    obtain ⟨cx, _, _, _, _, ec, _⟩ := id hc
    refine ⟨_, pss_cons (ps_expr (pe_c (c_need_chart t) hr (by decide) (pa_cons (pv 0) pa_nil)))
      (pss_cons (ps_expr (pe_c (c_need_place t) hr (by decide) (pa_cons (pv 0) (pa_cons (pv 1) pa_nil))))
      (pss_cons (ps_asg (pe_c (c_spread t3 b3) hr (by decide) (pa_cons (pv 0) (pa_cons (pe_c (c_low_bounds t3.z) hr (by decide) (pa_cons (pv 0) pa_nil)) (pa_cons (pv 1) pa_nil)))) (pg_tup rfl (pgs_cons (gv 2 nd) (pgs_cons (gv 3 nd) pgs_nil))))
      (pss_cons (slc1t 4 5 rfl nd (pi_list (pe_mt0 (m_Outlets t) hr (by decide) (pv 0))) (fun _ _ _ _ _ => pts_one (pt_cmp (pc_din hu (pv 5) (pv 2)))) (fun _ _ _ _ _ => pe_tup (pa_cons (pe_dget hu (pv 2) (pv 5) (fun _ _ => rfl)) (pa_cons (pv 5) pa_nil))) (bk nEs s_escape))
      (pss_one (ps_ret (pe_ifExp (pt_cmpR (op_neD h64) (pv 4) (pe_lst pa_nil) (nomark _)) (pe_c (c_way_back t) hr (by decide) (pa_cons (pv 3) (pa_cons (pe_ix ix_tup (cb (cr_minKd rfl h64) t.n_min (pa_cons (pv 4) pa_nil)) pe_int (fun _ _ => rfl)) pa_nil))) pe_non)))))), ?_⟩
    refine ⟨_, rfl, c, cx, _, rfl, ec, ?_⟩
    refine ⟨_, rfl, _, rfl, c, n, ch, rfl, hc, hn, ?_⟩
    refine ⟨_, rfl, _, rfl, c, ch, rfl, hc, ok, fun H1 dl u1 fl el => ⟨_, rfl, c, dl, n, ch, ch.low, rfl, hc.up u1, ok, el, hn, u1.tabs tab, fun H2 p lv bf ks L B f u2 ep elv ebf R run => ?_⟩⟩
    have U2 := u1.trans u2
    refine ⟨p, _, rfl, SqT.of ep, rfl, _, _, rfl, _, _, rfl, rfl, ?_⟩
    refine ⟨_, rfl, c, cx, _, rfl, U2.at ec, rfl, c, ch, rfl, hc.up U2, fun po hpo => ⟨po, rfl, ⟨_, SqL.of upd_same⟩, fun D hD => lcR (K := K) walk_names hD (fun o => decide (o ∈ ks)) (fun o y H => ∃ a, y = .ref a ∧ H a = some (.tup [.int (L o), .str o])) (by omega) (fun H u => SqL.of (u.at upd_same))
      (fun z y H H' st ⟨a, e, h⟩ => ⟨a, e, st _ _ h trivial (fun xs c => nomatch c)⟩) (fun i o x H3 H' Pn Py ho u hy kn ky => ?_) (fun H3 ys u e r => ?_)⟩⟩
    · obtain ⟨rfl, o', ho', rfl⟩ := hy
      obtain rfl : o = o' := Option.some.inj (ho.symm.trans ho')
      have U := (Up.new (K := K) hpo).trans u
      refine ⟨rfl, _, rfl, _, rfl, lv, _, rfl, din_mp (.inl (U.at elv)), _, rfl, ?_⟩
      by_cases cc : o ∈ ks
      · rw [if_pos cc]
        exact ⟨_, rfl, _, rfl, lv, _, rfl, dget_mp (f := fun n => V.int (L n)) (.inl (U.at elv)) cc, _, rfl, line2, fun tp htp => ky _ _ (Up.new htp) (decide_eq_true cc) ⟨tp, rfl, upd_same⟩⟩
      · rw [if_neg cc]
        exact kn _ Up.rfl' (decide_eq_false cc)
    · have U3 := (U2.add (o := .lst (ch.drains.map V.str)) hpo).trans u
      obtain ⟨ps, rfl, hps, hps2⟩ : ∃ ps : List (Addr × Kd), ys = ps.map (fun q => V.ref q.1) ∧ (∀ q ∈ ps, H3 q.1 = some (.tup [.int q.2.1, .str q.2.2])) ∧ ps.map (·.2) = (ch.drains.filter fun o => decide (o ∈ ks)).map fun o => (L o, o) := by
        generalize (ch.drains.filter fun o => decide (o ∈ ks)) = os at r
        clear e
        induction r with
        | nil => exact ⟨[], rfl, fun q h => by simp at h, rfl⟩
        | @cons o y os ys h _ ih =>
          obtain ⟨ps, e1, e2, e3⟩ := ih
          obtain ⟨a, rfl, ha⟩ := h
          refine ⟨(a, (L o, o)) :: ps, by rw [e1]; rfl, fun q hq => ?_, by rw [List.map_cons, List.map_cons, e3]⟩
          rcases List.mem_cons.mp hq with z | z
          · rw [z]; exact ha
          · exact e2 q z
      have mem : ∀ k : Kd, k ∈ ps.map (·.2) ↔ k.2 ∈ ch.drains ∧ f.lev k.2 = some k.1 := fun k => by
        rw [hps2, List.mem_map]
        constructor
        · rintro ⟨o, ho, rfl⟩
          obtain ⟨h1, h2⟩ := List.mem_filter.mp ho
          exact ⟨h1, R.some (of_decide_eq_true h2)⟩
        · rintro ⟨h1, h2⟩
          have hk : k.2 ∈ ks := by
            by_cases cc : k.2 ∈ ks
            · exact cc
            · rw [R.none cc] at h2; cases h2
          rw [R.some hk] at h2
          exact ⟨k.2, List.mem_filter.mpr ⟨h1, decide_eq_true hk⟩, by rw [Option.some.inj h2]⟩
      have dpk : ∀ (H : Hp) (l : List (Addr × Kd)), (∀ q ∈ l, H q.1 = some (.tup [.int q.2.1, .str q.2.2])) → DpAll K H (l.map fun q => V.ref q.1) (l.map fun q => PyData.tuple [.int q.2.1, .str q.2.2]) := fun H l => by
        induction l with
        | nil => intro _; exact .nil
        | cons q l ih => intro h; exact .cons (.tup (SqT.of (h q List.mem_cons_self)) (.cons (.int _) (.cons (.str _) .nil))) (ih fun r hr => h r (List.mem_cons_of_mem _ hr))
      have shk : SeqAt.shaped (.list (ps.map fun q => PyData.tuple [.int q.2.1, .str q.2.2])) = true := by
        unfold SeqAt.shaped
        rw [PyData.canLay0, canLayAll_map (fun q hq => ?_), PyData.depth, decide_eq_true]
        · rfl
        · have := depthAll_map (f := fun q : Addr × Kd => PyData.tuple [.int q.2.1, .str q.2.2]) (k := 1) (l := ps) fun q _ => by
            rw [PyData.depth, PyData.depthAll, PyData.depthAll, PyData.depthAll, PyData.depth, PyData.depth]; decide
          omega
        · have hq2 := (mem q.2).mp (List.mem_map_of_mem hq)
          rw [PyData.canLay0, PyData.canLayAll0, PyData.canLayAll0, PyData.canLayAll0, PyData.canLay0, canLay_str (ok.good _ (ok.din _ hq2.1)).ascii]; rfl
      refine ⟨_, rfl, line8 (by decide), fun pe hpe => ⟨_, .list [], .lst (SqL.of (ext_new hpe _ _ e)) (dpk _ _ fun q hq => ext_new hpe _ _ (hps q hq)), .lst (SqL.of upd_same) .nil, shk, shaped_nil, _, rfl, ?_⟩⟩
      rw [eqv_nil]
      have U4 := U3.add (o := .lst []) hpe
      cases hcs : ps with
      | nil =>
        refine qn _ U4 ⟨f, run, .inl ⟨rfl, fun o ho => ?_⟩⟩
        cases hl : f.lev o with
        | none => rfl
        | some l =>
          have := (mem (l, o)).mpr ⟨ho, hl⟩
          rw [hcs] at this
          simp at this
      | cons p0 pr =>
        rw [← hcs]
        have hne : ps ≠ [] := by rw [hcs]; exact List.cons_ne_nil _ _
        have hb : (!(!(ps.map fun q => PyData.tuple [.int q.2.1, .str q.2.2]).isEmpty)) = false := by rw [hcs]; rfl
        have hb' : (!(ps.map fun q => PyData.tuple [.int q.2.1, .str q.2.2]).isEmpty) = true := by rw [hcs]; rfl
        rw [hb']
        refine ⟨_, rfl, _, rfl, D, ps, rfl, SqL.of (ext_new hpe _ _ e), fun q hq => SqT.of (ext_new hpe _ _ (hps q hq)), hne, fun q hq hmin => ⟨q.1, _, 1, .str q.2.2, rfl, rfl, SqT.of (ext_new hpe _ _ (hps q hq)), rfl, ?_⟩⟩
        have hqm := (mem q.2).mp (List.mem_map_of_mem hq)
        obtain ⟨way, wy⟩ := run.found.way _ _ hqm.2
        have ebef : (fun x => if x ∈ ks then some (B x) else none) = f.bef := funext fun x => (R.bef x).symm
        have inks : ∀ y ∈ q.2.2 :: way, y ∈ ch.names := fun y hy => by
          obtain ⟨i, hi⟩ := List.mem_iff_getElem?.mp hy
          refine R.kin y ?_
          by_cases cc : y ∈ ks
          · exact cc
          · have : f.bef y = none := by rw [R.bef, if_neg cc]
            rcases wy.bc.get hi with ⟨_, z⟩ | ⟨_, _, z⟩ <;> rw [this] at z <;> cases z
        have wl := len_of_nodup wy.nd inks
        rw [List.length_cons] at wl
        have few := ok.few
        refine ⟨bf, q.2.2, ks, B, way, rfl, (((Up.new (K := K) hpo).trans u).add hpe).at ebf, by rw [ebef]; exact wy.bc, by omega, fun H' a u' fa ea => ?_⟩
        refine qs H' a _ (U4.trans u') ((Fr.of fa).back U4) ea ⟨f, run, .inr ⟨q.2.2, q.2.1, way, hqm.1, hqm.2, fun o' ho' l' hl' => ?_, wy.bc, rfl⟩⟩
        obtain ⟨q', hq', e'⟩ := List.mem_map.mp ((mem (l', o')).mpr ⟨ho', hl'⟩)
        have := hmin q' hq'
        rw [e'] at this
        exact this
end
end SH
/-! W20 -/
set_option Elab.async false
set_option linter.all false
set_option maxRecDepth 100000
set_option maxHeartbeats 1000000
namespace SH
open PySem PySem.Spec PyProof.Rows L2 LamX
section
variable {P : Program} {w : World} {K : Frg} {mg : Str → Option Value} {base : Heap}
def spRim (K : Frg) : Sp := fun vs H Q _ => ∃ (c : Addr) (n : Str) (ch : Ch) (l : Int), vs = [.ref c, .str n, .int l] ∧ ChartAt K H c ch ∧ ch.Ok ∧ n ∈ ch.names ∧ GoodH l ∧ Tabs (TT K) H ∧
  ∀ (H' : Hp) (a : Addr) (os : List Str), Up K H H' → H' a = some (.lst (os.map V.str)) → (∀ o ∈ os, ∃ M, M < l ∧ Rch (nbr ch) ch.low M n o) → os.length ≤ 8 → Q (.ref a) H'
abbrev nRim : List Str := ["chart", "name", "level", "levels", "before", "other"]
theorem sc_Rim : FnScope nRim ["chart", "name", "level"] (defScope s_rim) := sc_of
theorem c_rim (t3 : T3 K mg) (b3 : TBs K mg base) : Cal P w K mg base 5 "rim" (spRim K) [] := by
  have t := t3.z.t
  refine cal_of t.d_rim sc_Rim (fun _ _ _ _ _ _ us hl => match us, hl with | [_, _, _], _ => rfl) (fun vs H Q E h => ?_) (fun f cdv A outer s H vs Q E hr h => ?_)
  · obtain ⟨a, _, _, _, rfl, _⟩ := h
    rfl
  · obtain ⟨c, n, ch, l, rfl, hc, ok, hn, gl, tab, q⟩ := h
    have nd := sc_Rim.nd
    have hu := hu_of hr
    have few := ok.few
    obtain ⟨cx, _, _, _, _, ec, _⟩ := id hc
    refine ⟨_, pss_cons (ps_expr (pe_c (c_need_chart t) hr (by decide) (pa_cons (pv 0) pa_nil)))
      (pss_cons (ps_expr (pe_c (c_need_place t) hr (by decide) (pa_cons (pv 0) (pa_cons (pv 1) pa_nil))))
      (pss_cons (ps_expr (pe_c (c_need_height t) hr (by decide) (pa_cons (pv 2) pa_nil)))
      (pss_cons (ps_asg (pe_c (c_spread t3 b3) hr (by decide) (pa_cons (pv 0) (pa_cons (pe_c (c_low_bounds t3.z) hr (by decide) (pa_cons (pv 0) pa_nil)) (pa_cons (pv 1) pa_nil)))) (pg_tup rfl (pgs_cons (gv 3 nd) (pgs_cons (gv 4 nd) pgs_nil))))
      (pss_one (ps_ret (cb cr_sortedS t.n_sorted (pa_cons (pe_lock (lc1t 5 rfl nd (pi_keys (pv 3)) (fun _ _ _ _ _ => pt_cmpR op_lt (pe_dget hu (pv 3) (pv 5) (fun _ _ => rfl)) (pv 2) (nomark _)) (fun _ _ _ _ _ => pv 5) (bk nRim s_rim))) pa_nil))))))), ?_⟩
    refine ⟨_, rfl, c, cx, _, rfl, ec, ?_⟩
    refine ⟨_, rfl, _, rfl, c, n, ch, rfl, hc, hn, ?_⟩
    refine ⟨_, rfl, l, rfl, gl, ?_⟩
    refine ⟨_, rfl, _, rfl, c, ch, rfl, hc, ok, fun H1 dl u1 fl el => ⟨_, rfl, c, dl, n, ch, ch.low, rfl, hc.up u1, ok, el, hn, u1.tabs tab, fun H2 p lv bf ks L B f u2 ep elv ebf R run => ?_⟩⟩
    have U2 := u1.trans u2
    have klen := len_of_nodup R.knd R.kin
    refine ⟨p, _, rfl, SqT.of ep, rfl, _, _, rfl, _, _, rfl, rfl, ?_⟩
    refine ⟨lv, _, elv, trivial, fun od => ⟨_, rfl, lv, od, rfl, .inl ⟨_, upd_same, fun D hD => lcF (K := K) walk_mp hD (fun n => if decide (L n < l) = true then some (.str n) else none) (by omega) (fun H u => u.at upd_same) (fun i o x H3 H' Pn Py ho u hy kn ky => ?_) (fun H3 u e => ?_)⟩⟩⟩
    · obtain ⟨rfl, o', ho', rfl⟩ := hy
      obtain rfl : o = o' := Option.some.inj (ho.symm.trans ho')
      refine ⟨rfl, _, rfl, _, rfl, lv, _, rfl, dget_mp (f := fun n => V.int (L n)) (rd_frz (u.at upd_same)) (List.mem_of_getElem? ho), _, rfl, _, _, rfl, rfl, _, rfl, ?_⟩
      exact ite2 (fun h => ⟨_, rfl, ky _ _ Up.rfl' (if_pos h)⟩) (fun h => kn _ Up.rfl' (if_neg h))
    · refine ⟨u.at upd_same, ?_⟩
      have hDl : D ≠ lv := fun z => by rw [z, upd_same] at hD; cases hD
      have uu := Up.lock elv trivial u
      rw [fm_filter] at e
      have flen : (ks.filter fun n => decide (L n < l)).length ≤ ks.length := List.length_filter_le ..
      refine ⟨D, ks.filter fun n => decide (L n < l), rfl, SqL.of ((upd_ne hDl).trans e), by omega, fun ys pp pm hs hp => ?_⟩
      refine q _ pp ys ((U2.trans uu).add hp) upd_same (fun o ho => ?_) (by rw [pm.length_eq]; omega)
      have := List.mem_filter.mp (pm.mem_iff.mp ho)
      exact ⟨L o, of_decide_eq_true this.2, (run.found.lev o (L o)).mpr ⟨_, R.some this.1, Int.le_refl _⟩⟩
/-! ### what is drawn -/
/-- all but the box stays -/
def StB (b : Addr) (H H' : Hp) : Prop := ∀ x o, x ≠ b → H x = some o → H' x = some o
theorem StB.rfl' {b : Addr} {H : Hp} : StB b H H := fun _ _ _ h => h
theorem StB.tr {b : Addr} {H H1 H2 : Hp} (x : StB b H H1) (y : StB b H1 H2) : StB b H H2 := fun a o n h => y a o n (x a o n h)
theorem StB.of {b : Addr} {H H1 : Hp} (x : St1 H H1) : StB b H H1 := fun a o _ h => x a o h
theorem StB.new {b p : Addr} {H : Hp} {o : HO} (n : H p = none) : StB b H (upd H p o) := StB.of (ext_new n)
/-- the box: k draws at most -/
def BoxAt (H : Hp) (b : Addr) (k : Nat) : Prop := ∃ x y z : Int, H b = some (.lst [.int x, .int y, .int z]) ∧ 0 ≤ y ∧ y < 2147483648 ∧ 0 ≤ z ∧ z ≤ k
theorem BoxAt.up {H H' : Hp} {b : Addr} {k : Nat} (x : BoxAt H b k) (s : St1 H H') : BoxAt H' b k := let ⟨x, y, z, e, r⟩ := x; ⟨x, y, z, s _ _ e, r⟩
theorem BoxAt.mono {H : Hp} {b : Addr} {k j : Nat} (x : BoxAt H b k) (h : k ≤ j) : BoxAt H b j := let ⟨x, y, z, e, r1, r2, r3, r4⟩ := x; ⟨x, y, z, e, r1, r2, r3, by omega⟩
theorem BoxAt.ex {H : Hp} {b : Addr} {k : Nat} (x : BoxAt H b k) : ∃ xs, H b = some (.lst xs) := let ⟨_, _, _, e, _⟩ := x; ⟨_, e⟩
theorem BoxAt.wr {H : Hp} {b p : Addr} {k : Nat} {o : HO} (x : BoxAt H b k) (n : b ≠ p) : BoxAt (upd H p o) b k := let ⟨x, y, z, e, r⟩ := x; ⟨x, y, z, (upd_ne n).trans e, r⟩
def spTake : Sp := fun vs H Q _ => ∃ (b : Addr) (m : Int) (k : Nat), vs = [.ref b, .int m] ∧ BoxAt H b k ∧ k ≤ 1000000 ∧ 0 < m ∧ m < 1000000 ∧ ∀ H' d, StB b H H' → BoxAt H' b (k + 1) → 0 ≤ d → d < m → Q (.int d) H'
abbrev nTk : List Str := ["_law_box_here", "_law_many", "_law_digit", "_law_number"]
theorem sc_Take : FnScope nTk ["_law_box_here", "_law_many"] (defScope s_law_take) := sc_of
theorem c_take (t : T K mg) : Cal P w K mg base 1 "_law_take" spTake [] := by
  refine cal_of t.d_law_take sc_Take (fun _ _ _ _ _ _ us hl => match us, hl with | [_, _], _ => rfl) (fun vs H Q E h => ?_) (fun f cdv A outer s H vs Q E hr h => ?_)
  · obtain ⟨a, _, _, rfl, _⟩ := h
    rfl
  · obtain ⟨b, m, k, rfl, ⟨x, y, z, eb, hy0, hy1, hz0, hz1⟩, hk, hm0, hm1, q⟩ := h
    have nd := sc_Take.nd
    refine ⟨_, pss_cons (ps_if (pt_cmpR op_gt (pe_ix ix_list (pv 0) pe_int (fun _ _ => rfl)) pe_int (nomark _))
        (pss_cons (sv 2 nd (pe_op op_mod (ct call_int1 t.n_int (pa_cons (pe_ix ix_list (pv 0) pe_int (fun _ _ => rfl)) pa_nil)) (pv 1)))
        (pss_cons (ps_asg (pe_op op_fdiv (pe_ix ix_list (pv 0) pe_int (fun _ _ => rfl)) (pv 1)) (pg_sub (pv 0) pe_int set_list)) (pss_one (ps_ret (pv 2))))) pss_nil)
      (pss_cons (ps_asg (pe_op op_add (pe_ix ix_list (pv 0) pe_int (fun _ _ => rfl)) pe_int) (pg_sub (pv 0) pe_int set_list))
      (pss_cons (sv 3 nd (pe_op op_mod (pe_op op_pow (ct call_int1 t.n_int (pa_cons (pe_op op_add (pe_op op_add (pe_ix ix_list (pv 0) pe_int (fun _ _ => rfl)) (pe_op op_mul pe_int (pe_ix ix_list (pv 0) pe_int (fun _ _ => rfl)))) pe_int) pa_nil)) pe_int) pe_int))
      (pss_cons (sv 3 nd (pe_op op_mod (pe_op op_pow (ct call_int1 t.n_int (pa_cons (pe_op op_add (pv 3) (pe_op op_mul pe_int (pe_ix ix_list (pv 0) pe_int (fun _ _ => rfl)))) pa_nil)) pe_int) pe_int))
      (pss_one (ps_ret (pe_op op_mod (ct call_int1 t.n_int (pa_cons (pe_op op_fdiv (pv 3) pe_int) pa_nil)) (pv 1))))))), ?_⟩
    have ix : ∀ (H : Hp) (u v w : Int), H b = some (.lst [.int u, .int v, .int w]) → SqL K H b [.int u, .int v, .int w] := fun H u v w h => SqL.of h
    refine ⟨_, rfl, b, _, 0, _, rfl, rfl, ix _ _ _ _ eb, rfl, _, _, rfl, rfl, _, rfl, ?_⟩
    refine ite2 (fun h => ?_) (fun h => ?_)
    · rw [decide_eq_true_eq] at h
      refine ⟨_, rfl, b, _, 0, _, rfl, rfl, ix _ _ _ _ eb, rfl, .inl ⟨x, rfl, _, rfl, _, _, rfl, rfl, hm0, ?_⟩⟩
      refine ⟨_, rfl, b, _, 0, _, rfl, rfl, ix _ _ _ _ eb, rfl, _, rfl, _, _, rfl, rfl, ⟨hm0, by omega⟩, ?_⟩
      refine ⟨_, rfl, b, _, 0, 0, rfl, rfl, eb, rfl, ?_⟩
      refine ⟨_, rfl, q _ _ (fun a o n h => (upd_ne n).trans h) ⟨x / m, y, z, upd_same, hy0, hy1, hz0, by omega⟩ (Int.emod_nonneg _ (by omega)) (Int.emod_lt_of_pos _ hm0)⟩
    · refine ⟨_, rfl, b, _, 2, _, rfl, rfl, ix _ _ _ _ eb, rfl, _, _, rfl, rfl, _, rfl, b, _, 2, 2, rfl, rfl, eb, rfl, ?_⟩
      have eb2 : upd H b (.lst [.int x, .int y, .int (z + 1)]) b = some (.lst [.int x, .int y, .int (z + 1)]) := upd_same
      refine ⟨_, rfl, b, _, 1, _, rfl, rfl, ix _ _ _ _ eb2, rfl, _, rfl, b, _, 2, _, rfl, rfl, ix _ _ _ _ eb2, rfl, 5647, z + 1, rfl, rfl, .inl (by decide), _, _, rfl, rfl, _, _, rfl, rfl, .inl ⟨_, rfl, _, _, rfl, rfl, ⟨by decide, by decide, by omega⟩, _, _, rfl, rfl, (by show (0 : Int) < _; decide), ?_⟩⟩
      generalize hN : (y + 5647 * (z + 1) + 145) ^ (5 : Int).toNat % 2147483647 = N1
      have hN1 : 0 ≤ N1 ∧ N1 < 2147483647 := by rw [← hN]; exact ⟨Int.emod_nonneg _ (by decide), Int.emod_lt_of_pos _ (by decide)⟩
      refine ⟨_, rfl, _, rfl, b, _, 2, _, rfl, rfl, ix _ _ _ _ eb2, rfl, 91197, z + 1, rfl, rfl, .inl (by decide), _, _, rfl, rfl, .inl ⟨_, rfl, _, _, rfl, rfl, ⟨by decide, by decide, by omega⟩, _, _, rfl, rfl, (by show (0 : Int) < _; decide), ?_⟩⟩
      refine ⟨_, rfl, _, _, rfl, rfl, ⟨by decide, by decide⟩, .inl ⟨_, rfl, _, rfl, _, _, rfl, rfl, hm0, ?_⟩⟩
      exact q _ _ (fun a o n h => (upd_ne n).trans h) ⟨x, y, z + 1, upd_same, hy0, hy1, by omega, by omega⟩ (Int.emod_nonneg _ (by omega)) (Int.emod_lt_of_pos _ hm0)
end
end SH
/-! W21 -/
set_option Elab.async false
set_option linter.all false
set_option maxRecDepth 100000
set_option maxHeartbeats 1000000
namespace SH
open PySem PySem.Spec PyProof.Rows L2 LamX
/-! ### the letters -/
abbrev SL (l : List Nat) : Str := ⟨l.toArray⟩
theorem SL_list (l : List Nat) : (SL l).cps.toList = l := rfl
theorem SL_inj {l m : List Nat} (h : SL l = SL m) : l = m := by
  have := congrArg (fun s : Str => s.cps.toList) h
  simpa using this
abbrev zN : Str := "zzzzzzzz"
abbrev abcN : Str := "abcdefghijklmnopqrstuvwxyz"
def ltr (a c k : Nat) : Nat := 97 + (a + c * k) % 26
def bsL (a : Nat) : List Nat := (List.range 8).map fun k => ltr a 5 k
def nm0 (a k : Nat) : List Nat := (bsL a).take (k + 1)
def nm1 (a s k : Nat) : List Nat := (bsL a).take s ++ [ltr a 7 k]
def nm2 (a s k : Nat) : List Nat := [ltr a 7 k] ++ (bsL a).take (s * (k % 2))
def okL (l : List Nat) : Bool := decide (1 ≤ l.length) && decide (l.length ≤ 8) && l.all (fun c => decide (97 ≤ c) && decide (c ≤ 122)) && !decide (l = List.replicate 8 122)
/-- a name that the law draws -/
def NmOk (n : Str) : Prop := GoodN n ∧ n ≠ zN
theorem nmOk_of {l : List Nat} (h : okL l = true) : NmOk (SL l) := by
  unfold okL at h
  simp only [Bool.and_eq_true, decide_eq_true_eq, List.all_eq_true, Bool.not_eq_true', decide_eq_false_iff_not] at h
  obtain ⟨⟨⟨h1, h2⟩, h3⟩, h4⟩ := h
  exact ⟨⟨h1, h2, h3⟩, fun z => h4 (by have := congrArg (fun s : Str => s.cps.toList) z; exact this)⟩
theorem all0 : ∀ a : Fin 26, ((List.range 8).all fun k => okL (nm0 a k)) && decide ((List.range 8).map fun k => nm0 a k).Nodup = true := by decide +kernel
theorem all1 : ∀ (a : Fin 26) (s : Fin 8), ((List.range 8).all fun k => okL (nm1 a s k)) && decide ((List.range 8).map fun k => nm1 a s k).Nodup = true := by decide +kernel
theorem all2 : ∀ (a : Fin 26) (s : Fin 8), ((List.range 8).all fun k => okL (nm2 a s k)) && decide ((List.range 8).map fun k => nm2 a s k).Nodup = true := by decide +kernel
theorem join8 : ∀ a : Fin 26, Txt.join "" ((List.range 8).map fun k => SL [ltr a 5 k]) = SL (bsL a) := by decide +kernel
theorem abc_at : ∀ i : Fin 26, atI abcN.cps.toList (i.1 : Int) = some (97 + i.1) := by decide +kernel
theorem names_of {f : Nat → List Nat} (h : ((List.range 8).all fun k => okL (f k)) && decide ((List.range 8).map f).Nodup = true) {m : Nat} (hm : m ≤ 8) :
    (((List.range m).map fun k => SL (f k)).Nodup) ∧ ∀ n ∈ (List.range m).map fun k => SL (f k), NmOk n := by
  rw [Bool.and_eq_true, List.all_eq_true] at h
  obtain ⟨h1, h2⟩ := h
  replace h2 := of_decide_eq_true (of_decide_eq_true h2)
  refine ⟨?_, fun n hn => ?_⟩
  · have e : ((List.range m).map fun k => SL (f k)) = ((List.range m).map f).map SL := by rw [List.map_map]; rfl
    rw [e]
    have sub : ((List.range m).map f).Nodup := (List.Sublist.map f ((List.range_sublist).mpr hm)).nodup h2
    exact List.pairwise_map.mpr (sub.imp fun {a b} h z => h (SL_inj z))
  · obtain ⟨k, hk, rfl⟩ := List.mem_map.mp hn
    exact nmOk_of (h1 k (List.mem_range.mpr (by have := List.mem_range.mp hk; omega)))
theorem erIdx_map {α β : Type} {f : α → β} : ∀ (l : List α) (i : Nat), (l.map f).eraseIdx i = (l.eraseIdx i).map f
  | [], _ => rfl
  | _ :: _, 0 => rfl
  | a :: l, i + 1 => by rw [List.map_cons, List.eraseIdx_cons_succ, List.eraseIdx_cons_succ, List.map_cons, erIdx_map l i]
theorem erIdx_perm {α : Type} : ∀ (l : List α) (i : Nat) (h : i < l.length), ([l[i]] ++ l.eraseIdx i).Perm l
  | [], _, h => by simp at h
  | a :: l, 0, _ => List.Perm.refl _
  | a :: l, i + 1, h => by
    rw [List.eraseIdx_cons_succ]
    have ih := erIdx_perm l i (by simpa using h)
    show (l[i]'(by simpa using h) :: a :: l.eraseIdx i).Perm (a :: l)
    exact (List.Perm.swap _ _ _).trans (List.Perm.cons a ih)
section
variable {P : Program} {w : World} {K : Frg} {mg : Str → Option Value} {base : Heap}
/-! ### cell, box -/
def spCell (K : Frg) : Sp := fun vs H Q _ => ∃ (a : Addr) (k : Nat) (ns : List Int), vs = [.ref a, .int k] ∧ SqL K H a (ns.map V.int) ∧ k ≤ 100 ∧ ∀ i : Int, Q (.int i) H
theorem sc_Cell : FnScope ["_law_script", "_law_k"] ["_law_script", "_law_k"] (defScope s_law_cell) := sc_of
theorem c_cell (t : T K mg) : Cal P w K mg base 1 "_law_cell" (spCell K) [] := by
  refine cal_of t.d_law_cell sc_Cell (fun _ _ _ _ _ _ us hl => match us, hl with | [_, _], _ => rfl) (fun vs H Q E h => ?_) (fun f cdv A outer s H vs Q E hr h => ?_)
  · obtain ⟨a, _, _, rfl, _⟩ := h
    rfl
  · obtain ⟨a, k, ns, rfl, hs, hk, q⟩ := h
    refine ⟨_, pss_cons (ps_if (pt_cmpR op_lt (pv 1) (cb call_len_seq t.n_len (pa_cons (pv 0) pa_nil)) (nomark _)) (pss_one (ps_ret (pe_ix ix_list (pv 0) (pv 1) (fun _ _ => rfl)))) pss_nil)
      (pss_one (ps_ret (pe_op op_add (pe_op op_mul pe_int (pv 1)) pe_int))), ?_⟩
    refine ⟨_, rfl, _, rfl, a, _, rfl, .inl hs, _, _, rfl, rfl, _, rfl, ?_⟩
    refine ite2 (fun h => ?_) (fun h => ?_)
    · rw [decide_eq_true_eq, List.length_map] at h
      have hlt : k < ns.length := by omega
      exact ⟨_, rfl, _, rfl, a, _, _, _, rfl, rfl, hs, atI_nat (j := k) (v := V.int ns[k]) (by rw [List.getElem?_map, List.getElem?_eq_getElem hlt]; rfl), q _⟩
    · exact ⟨_, rfl, 66786617, (k : Int), rfl, rfl, .inl (by decide), _, _, rfl, rfl, q _⟩
def spBox : Sp := fun vs H Q _ => ∃ i : Int, vs = [.int i] ∧ ∀ p H', H p = none → St1 H H' → BoxAt H' p 0 → Q (.ref p) H'
theorem sc_Box : FnScope ["_law_cell_here"] ["_law_cell_here"] (defScope s_law_box) := sc_of
theorem c_box (t : T K mg) : Cal P w K mg base 1 "_law_box" spBox [] := by
  refine cal_of t.d_law_box sc_Box (fun _ _ _ _ _ _ us hl => match us, hl with | [_], _ => rfl) (fun vs H Q E h => ?_) (fun f cdv A outer s H vs Q E hr h => ?_)
  · obtain ⟨a, rfl, _⟩ := h
    rfl
  · obtain ⟨i, rfl, q⟩ := h
    refine ⟨_, pss_one (ps_ret (pe_lst (pa_cons (cb (call_max2 rfl) t.n_max (pa_cons pe_int (pa_cons (pe_op op_sub (pv 0) (pe_op op_pow pe_int pe_int)) pa_nil))) (pa_cons (pe_op op_mod (ct call_int1 t.n_int (pa_cons (pv 0) pa_nil)) pe_int) (pa_cons pe_int pa_nil))))), ?_⟩
    refine ⟨_, rfl, _, _, rfl, rfl, ⟨by decide, by decide, by decide⟩, _, _, rfl, rfl, _, _, rfl, ?_⟩
    refine ⟨_, rfl, .inl ⟨_, rfl, _, _, rfl, rfl, (by show (0 : Int) < 2147483629; decide), (by show (3 : Nat) ≤ sizeLine; exact line8 (by decide)), fun p hp => ?_⟩⟩
    refine q p _ hp (ext_new hp) ⟨_, _, _, upd_same, Int.emod_nonneg _ (by decide), ?_, by decide, by decide⟩
    exact Int.lt_trans (Int.emod_lt_of_pos _ (by decide)) (by decide)
/-! ### mixed -/
abbrev nMx : List Str := ["_law_box_here", "_law_some", "_law_left", "_law_k"]
def spMixed : Sp := fun vs H Q _ => ∃ (b l : Addr) (ss : List Str) (k : Nat), vs = [.ref b, .ref l] ∧ H l = some (.lst (ss.map V.str)) ∧ BoxAt H b k ∧ b ≠ l ∧ k ≤ 900000 ∧ ss.length ≤ 100 ∧
  ∀ (H' : Hp) (a : Addr) (ss' : List Str), StB b H H' → BoxAt H' b (k + ss.length) → ss'.Perm ss → H' a = some (.lst (ss'.map V.str)) → H a = none → Q (.ref a) H'
theorem sc_Mixed : FnScope nMx ["_law_box_here", "_law_some"] (defScope s_law_mixed) := sc_of
theorem c_mixed (t : T K mg) : Cal P w K mg base 2 "_law_mixed" spMixed [] := by
  refine cal_of t.d_law_mixed sc_Mixed (fun _ _ _ _ _ _ us hl => match us, hl with | [_, _], _ => rfl) (fun vs H Q E h => ?_) (fun f cdv A outer s H vs Q E hr h => ?_)
  · obtain ⟨a, _, _, _, rfl, _⟩ := h
    rfl
  · obtain ⟨b, l, ss, k, rfl, hl, hb, hne, hk, few, q⟩ := h
    have nd := sc_Mixed.nd
    refine ⟨_, pss_cons (sv 2 nd (ct call_list_of t.n_list (pa_cons (pv 1) pa_nil)))
      (pss_one (ps_ret (lc1 3 rfl nd (pi_range1 rfl t.n_range (pa_cons (cb call_len_seq t.n_len (pa_cons (pv 1) pa_nil)) pa_nil)) (fun _ _ _ _ _ => pe_bm PySem.F.plainAttrs_list PySem.F.slot_list_pop PySem.F.type_list_pop (mt_popAt) (pv 2)
        (pa_cons (pe_c (c_take t) hr (by decide) (pa_cons (pv 0) (pa_cons (cb (id := "len") call_len_seq t.n_len (pa_cons (pv 2) pa_nil)) pa_nil))) pa_nil)) (bk nMx s_law_mixed)))), ?_⟩
    refine ⟨_, rfl, l, _, rfl, .inl (SqL.of hl), fun F hF => ?_⟩
    have s0 : St1 H (upd H F (.lst (ss.map V.str))) := ext_new hF
    obtain ⟨bx, hbx⟩ := hb.ex
    have hbF : b ≠ F := ne_of_none hbx hF
    refine ⟨_, rfl, l, _, rfl, .inl (SqL.of (s0 _ _ hl)), _, rfl, by omega, by rw [List.length_map]; omega, fun D hD => ?_⟩
    have hDF : D ≠ F := fun z => by rw [z, upd_same] at hD; cases hD
    have hDH : H D = none := by rw [upd_ne hDF] at hD; exact hD
    have hbD : b ≠ D := ne_of_none (s0 _ _ hbx) hD
    have wk : Walk (Itr 0 ((ss.map V.str).length : Int).toNat) ss.length (fun _ => True) (YFn fun i => .int (0 + (i : Nat))) := by
      have : ((ss.map V.str).length : Int).toNat = ss.length := by rw [List.length_map]; omega
      rw [this]; exact walk_range
    refine lc_it wk (fun i H' => StB b H H' ∧ BoxAt H' b (k + i) ∧ ∃ acc rem : List Str, H' F = some (.lst (rem.map V.str)) ∧ H' D = some (.lst (acc.map V.str)) ∧ (acc ++ rem).Perm ss ∧ acc.length = i) ?_ (fun _ _ _ _ => trivial) (fun i x H2 H' hi h hy => ?_) (fun H2 h => ?_)
    · exact ⟨(StB.of s0).tr (StB.new hD), (hb.up s0).wr hbD, [], ss, (upd_ne (Ne.symm hDF)).trans upd_same, upd_same, List.Perm.refl _, rfl⟩
    · obtain ⟨sb, hbx2, acc, rem, eF, eD, pm, hl2⟩ := h
      obtain ⟨rfl, rfl⟩ := hy
      have hlen : rem.length = ss.length - i := by have := pm.length_eq; rw [List.length_append] at this; omega
      refine ⟨rfl, _, rfl, .inl ⟨rfl, _, SqL.of eF⟩, _, rfl, _, rfl, F, _, rfl, .inl (SqL.of eF), b, _, k + i, rfl, hbx2, by omega, by rw [List.length_map]; omega, by rw [List.length_map]; omega, fun H3 d s3 b3 h0 h1 => ?_⟩
      rw [List.length_map] at h1
      obtain ⟨j, rfl⟩ : ∃ j : Nat, d = j := ⟨d.toNat, by omega⟩
      have hj : j < rem.length := by omega
      have eF3 := s3 F _ (Ne.symm hbF) eF
      have eD3 := s3 D _ (Ne.symm hbD) eD
      refine ⟨F, _, (j : Int), j, .str rem[j], rfl, rfl, eF3, by omega, by omega, ?_, by rw [List.getElem?_map, List.getElem?_eq_getElem hj]; rfl, acc.map V.str, (upd_ne hDF).trans eD3, by rw [List.length_map]; exact line8' (by omega), ?_⟩
      · unfold seqIndex?
        rw [List.length_map]
        have c1 : ¬ ((j : Int) < 0) := by omega
        simp only [c1, if_false]
        rw [if_pos (by simp only [Bool.and_eq_true, decide_eq_true_eq]; omega)]
        simp
      · have eF4 : upd H3 F (.lst ((rem.map V.str).eraseIdx j)) b = H3 b := upd_ne hbF
        have bxx := b3.wr (o := .lst ((rem.map V.str).eraseIdx j)) hbF
        refine ⟨fun x o hx h => ?_, ?_, acc ++ [rem[j]], rem.eraseIdx j, ?_, ?_, ?_, by rw [List.length_append, hl2]; rfl⟩
        · rw [upd_ne (ne_of_none h hDH), upd_ne (ne_of_none h hF)]; exact s3 x o hx (sb x o hx h)
        · have := bxx.wr (o := .lst (acc.map V.str ++ [.str rem[j]])) hbD
          exact this.mono (by omega)
        · rw [upd_ne (Ne.symm hDF), upd_same, erIdx_map]
        · rw [upd_same, List.map_append]; rfl
        · rw [List.append_assoc]
          refine List.Perm.trans (List.Perm.append_left acc ?_) pm
          exact erIdx_perm rem j hj
    · obtain ⟨sb, hbx2, acc, rem, eF, eD, pm, hl2⟩ := h
      have hr0 : rem = [] := by
        have := pm.length_eq
        rw [List.length_append] at this
        exact List.length_eq_zero_iff.mp (by omega)
      rw [hr0, List.append_nil] at pm
      exact q H2 D acc sb hbx2 pm eD hDH
end
end SH
/-! W22 -/
set_option Elab.async false
set_option linter.all false
set_option maxRecDepth 100000
set_option maxHeartbeats 1000000
namespace SH
open PySem PySem.Spec PyProof.Rows L2 LamX
theorem filterMap_snoc {α β : Type} {f : α → Option β} {l : List α} {i : Nat} {x : α} {y : β} (h : l[i]? = some x) (e : f x = some y) : (l.take (i + 1)).filterMap f = (l.take i).filterMap f ++ [y] := by
  rw [take_next h, List.filterMap_append]; simp [e]
theorem filterMap_same {α β : Type} {f : α → Option β} {l : List α} {i : Nat} {x : α} (h : l[i]? = some x) (e : f x = none) : (l.take (i + 1)).filterMap f = (l.take i).filterMap f := by
  rw [take_next h, List.filterMap_append]; simp [e]
/-- a list of what each item gives; all stays -/
theorem lcS {J : It} {G : Hp → Prop} {Y : Nat → Hp → V → Hp → Prop} {α : Type} {zs : List α} (w : Walk J zs.length G Y) {g : TG} {tt : L2.TT} {te : TE} {vs : List Nat} {σ : L2.St} {H1 : Hp} {D : Addr} {Qd : Hp → Prop} (hD : H1 D = none) (ψ : α → Option V) (few : zs.length ≤ 100000) (hG : ∀ H, St1 H1 H → G H)
    (hs : ∀ i z x H H' (Pn : Hp → Prop) (Py : VK), zs[i]? = some z → St1 H1 H → Y i H x H' → (∀ H3, St1 H H3 → ψ z = none → Pn H3) → (∀ y H4, St1 H H4 → ψ z = some y → Py y H4) →
      g x (wipe σ vs) H' fun σ2 H2 => wipe σ2 vs = wipe σ vs ∧ tt σ2 H2 fun b H3 => if b = true then te σ2 H3 Py else Pn H3)
    (hd : ∀ H, St1 H1 H → H D = some (.lst (zs.filterMap ψ)) → Qd H) :
    ∃ W : Nat → Nat → Hp → Prop, (∃ m, W 0 m (upd H1 D (.lst []))) ∧ ∀ i m H, W i m H →
      (J.stop i H ∧ Qd H) ∨ (J.go i H ∧ ∃ Nx : Hp → Prop, (∀ H', Nx H' → ∃ m', m' < m ∧ W (i + 1) m' H') ∧ ∀ x H', J.yld i H x H' → g x (wipe σ vs) H' fun σ2 H2 => wipe σ2 vs = wipe σ vs ∧ tt σ2 H2 fun b H3 =>
        if b = true then te σ2 H3 fun y H4 => ∃ acc, H4 D = some (.lst acc) ∧ acc.length < sizeLine ∧ Nx (upd H4 D (.lst (acc ++ [y]))) else Nx H3) := by
  refine lc_it w (fun i H => St1 H1 H ∧ H D = some (.lst ((zs.take i).filterMap ψ))) ⟨ext_new hD, upd_same⟩ (fun i H _ h => hG H h.1) (fun i x H H' hi h hy => ?_) (fun H h => ?_)
  · obtain ⟨u, e⟩ := h
    obtain ⟨z, hz⟩ : ∃ z, zs[i]? = some z := ⟨_, List.getElem?_eq_getElem hi⟩
    refine hs i z x H H' _ _ hz u hy (fun H3 u3 c => ⟨u.tr u3, ?_⟩) (fun y H4 u4 c => ⟨_, u4 _ _ e, ?_, (u.tr u4).rd hD, ?_⟩)
    · rw [filterMap_same hz c]; exact u3 _ _ e
    · have h2 : ((zs.take i).filterMap ψ).length ≤ (zs.take i).length := List.length_filterMap_le ..
      rw [List.length_take] at h2
      exact line8' (by omega)
    · rw [upd_same, filterMap_snoc hz c]
  · obtain ⟨u, e⟩ := h
    rw [List.take_length] at e
    exact hd H u e
theorem wk_range (m : Nat) : Walk (Itr 0 m) (List.range m).length (fun _ => True) (YFn fun i => .int (0 + (i : Nat))) := by
  rw [List.length_range]; exact walk_range
theorem range_get {m i k : Nat} (h : (List.range m)[i]? = some k) : k = i ∧ i < m := by
  obtain ⟨h1, h2⟩ := List.getElem?_eq_some_iff.mp h
  rw [List.length_range] at h1
  rw [List.getElem_range] at h2
  exact ⟨h2.symm, h1⟩
theorem ltr_at (a k : Nat) (c : Nat) : atI abcN.cps.toList (((a : Int) + (c : Int) * (0 + (k : Int))) % 26) = some (ltr a c k) := by
  have e : ((a : Int) + (c : Int) * (0 + (k : Int))) % 26 = (((a + c * k) % 26 : Nat) : Int) := by
    rw [Int.zero_add]; simp
  rw [e]
  exact abc_at ⟨(a + c * k) % 26, Nat.mod_lt _ (by decide)⟩
theorem cut_take (l : List Nat) (n : Nat) : cutS (SL l) none (some (n : Int)) = SL (l.take n) := by
  unfold cutS
  rw [HT.sIx_none, HT.sIx_nat, List.drop_zero, Nat.sub_zero]
  show (⟨(l.take (min n l.length)).toArray⟩ : Str) = _
  rw [← List.take_eq_take_min]
theorem SL_app (x y : List Nat) : SL x ++ SL y = SL (x ++ y) := str_ext (by show (x.toArray ++ y.toArray).toList = _; simp)
theorem fm_some {α : Type} {f : α → V} {l : List α} : l.filterMap (fun k => some (f k)) = l.map f := congrFun List.filterMap_eq_map' l
section
variable {P : Program} {w : World} {K : Frg} {mg : Str → Option Value} {base : Heap}
abbrev nNm : List Str := ["_law_box_here", "_law_many", "_law_way", "_law_first", "_law_letters", "_law_base", "_law_size", "_law_k"]
def spNms : Sp := fun vs H Q _ => ∃ (b : Addr) (mi : Int) (m k : Nat), vs = [.ref b, .int mi] ∧ mi = m ∧ BoxAt H b k ∧ 1 ≤ m ∧ m ≤ 8 ∧ k ≤ 800000 ∧
  ∀ (H' : Hp) (a : Addr) (ns : List Str), StB b H H' → BoxAt H' b (k + 20) → ns.length = m → ns.Nodup → (∀ n ∈ ns, NmOk n) → H' a = some (.lst (ns.map V.str)) → H a = none → Q (.ref a) H'
theorem sc_Nms : FnScope nNm ["_law_box_here", "_law_many"] (defScope s_law_names) := sc_of
theorem c_names (t : T K mg) : Cal P w K mg base 3 "_law_names" spNms [] := by
  refine cal_of t.d_law_names sc_Nms (fun _ _ _ _ _ _ us hl => match us, hl with | [_, _], _ => rfl) (fun vs H Q E h => ?_) (fun f cdv A outer s H vs Q E hr h => ?_)
  · obtain ⟨a, _, _, _, rfl, _⟩ := h
    rfl
  · obtain ⟨b, mi, m, k, rfl, rfl, hb, hm1, hm8, hk, q⟩ := h
    have nd := sc_Nms.nd
    refine ⟨_, pss_cons (ps_asg (pe_tup (pa_cons (pe_c (c_take t) hr (by decide) (pa_cons (pv 0) (pa_cons pe_int pa_nil))) (pa_cons (pe_c (c_take t) hr (by decide) (pa_cons (pv 0) (pa_cons pe_int pa_nil))) pa_nil))) (pg_tup rfl (pgs_cons (gv 2 nd) (pgs_cons (gv 3 nd) pgs_nil))))
      (pss_cons (sv 4 nd pe_str)
      (pss_cons (sv 5 nd (pe_bm PySem.F.plainAttrs_str PySem.F.slot_str_join PySem.F.type_str_join mt_join pe_str (pa_cons (lc1 7 rfl nd (pi_range1 rfl t.n_range (pa_cons pe_int pa_nil))
          (fun _ _ _ _ _ => pe_ix ix_str (pv 4) (pe_op op_mod (ct (id := "int") call_int1 t.n_int (pa_cons (pe_op op_add (pv 3) (pe_op op_mul pe_int (pv 7))) pa_nil)) pe_int) (fun _ _ => rfl)) (bk nNm s_law_names)) pa_nil)))
      (pss_cons (ps_if (PW.pt (pw_and (pt_cmpR op_eq (pv 2) pe_int (nomark _)) (pw_and1 (pt_cmpR op_lt (pv 1) pe_int (nomark _)))))
          (pss_one (ps_ret (pe_c (c_mixed t) hr (by decide) (pa_cons (pv 0) (pa_cons (lc1 7 rfl nd (pi_range1 rfl t.n_range (pa_cons (pv 1) pa_nil)) (fun _ _ _ _ _ => pe_slice sl_str (pv 5) po_none (po_some (pe_op op_add (pv 7) pe_int))) (bk nNm s_law_names)) pa_nil))))) pss_nil)
      (pss_cons (sv 6 nd (pe_c (c_take t) hr (by decide) (pa_cons (pv 0) (pa_cons pe_int pa_nil))))
      (pss_cons (ps_if (pt_cmpR op_eq (pv 2) pe_int (nomark _))
          (pss_one (ps_ret (lc1 7 rfl nd (pi_range1 rfl t.n_range (pa_cons (pv 1) pa_nil)) (fun _ _ _ _ _ => pe_op op_add_str (pe_slice sl_str (pv 5) po_none (po_some (pv 6)))
            (pe_ix ix_str (pv 4) (pe_op op_mod (ct (id := "int") call_int1 t.n_int (pa_cons (pe_op op_add (pv 3) (pe_op op_mul pe_int (pv 7))) pa_nil)) pe_int) (fun _ _ => rfl))) (bk nNm s_law_names)))) pss_nil)
      (pss_one (ps_ret (lc1 7 rfl nd (pi_range1 rfl t.n_range (pa_cons (pv 1) pa_nil)) (fun _ _ _ _ _ => pe_op op_add_str
            (pe_ix ix_str (pv 4) (pe_op op_mod (ct (id := "int") call_int1 t.n_int (pa_cons (pe_op op_add (pv 3) (pe_op op_mul pe_int (pv 7))) pa_nil)) pe_int) (fun _ _ => rfl))
            (pe_slice sl_str (pv 5) po_none (po_some (pe_op op_mul (pv 6) (pe_op op_mod (pv 7) pe_int))))) (bk nNm s_law_names))))))))), ?_⟩
    refine ⟨_, rfl, b, 3, k, rfl, hb, by omega, by decide, by decide, fun H1 d1 s1 b1 d10 d11 => ⟨_, rfl, b, 26, k + 1, rfl, b1, by omega, by decide, by decide, fun H2 d2 s2 b2 d20 d21 => ⟨line2, fun tp htp => ⟨tp, _, rfl, SqT.of upd_same, rfl, _, _, rfl, _, _, rfl, rfl, ?_⟩⟩⟩⟩
    obtain ⟨a, rfl⟩ : ∃ a : Nat, d2 = a := ⟨d2.toNat, by omega⟩
    have ha : a < 26 := by omega
    obtain ⟨bx, hbx⟩ := b2.ex
    have hbt : b ≠ tp := ne_of_none hbx htp
    have S3 : StB b H (upd H2 tp (.tup [.int d1, .int a])) := (s1.tr s2).tr (StB.new htp)
    have b3 : BoxAt (upd H2 tp (.tup [.int d1, .int a])) b (k + 2) := b2.wr hbt
    generalize upd H2 tp (.tup [.int d1, .int a]) = H3 at S3 b3 ⊢
    have abcl : abcN.length ≤ sizeLine := line8 (by decide)
    refine ⟨rfl, 8, rfl, by decide, by decide, fun D hD => lcS (wk_range 8) hD (fun k => some (.str (SL [ltr a 5 k]))) (by decide) (fun _ _ => trivial) (fun i j x H4 H' Pn Py hj u hy kn ky => ?_) (fun H4 u4 e4 => ?_)⟩
    · obtain ⟨rfl, rfl⟩ := hy
      obtain ⟨rfl, hi⟩ := range_get hj
      exact ⟨rfl, _, rfl, _, rfl, _, rfl, 5, _, rfl, rfl, .inl (by decide), _, _, rfl, rfl, .inl ⟨_, rfl, _, _, rfl, rfl, (by show (0 : Int) < 26; decide), abcN, _, _, rfl, rfl, abcl, ltr_at a j 5, ky _ _ (fun _ _ h => h) rfl⟩⟩
    rw [fm_some] at e4
    refine ⟨"", D, (List.range 8).map fun k => SL [ltr a 5 k], rfl, rfl, .inl (SqL.of (by rw [e4, List.map_map]; rfl)), (by show ((List.range 8).map fun _ => (1 : Nat)).sum + 8 * 0 ≤ 16777216; decide), ?_⟩
    rw [join8 ⟨a, ha⟩]
    have S4 : StB b H H4 := S3.tr (StB.of u4)
    have b4 := b3.up u4
    obtain ⟨bx4, hbx4⟩ := b4.ex
    have bsl : (SL (bsL a)).length ≤ sizeLine := line8 (by show (bsL a).toArray.size ≤ 100000; rw [List.size_toArray]; unfold bsL; rw [List.length_map, List.length_range]; decide)
    have frH : ∀ (H5 : Hp) (D : Addr), StB b H H5 → (∃ xs, H5 b = some (.lst xs)) → H5 D = none → H D = none := fun H5 D s5 ⟨xs, hb5⟩ h => by
      cases c : H D with
      | none => rfl
      | some o =>
        by_cases z : D = b
        · rw [z, hb5] at h; cases h
        · rw [s5 D o z c] at h; cases h
    have em : ((m : Nat) : Int).toNat = m := by simp
    have fin : ∀ (H5 : Hp) (D : Addr) (g : Nat → List Nat), StB b H H5 → BoxAt H5 b (k + 20) → H5 D = some (.lst ((List.range ((m : Nat) : Int).toNat).map fun j => V.str (SL (g j)))) → H D = none →
        ((List.range 8).all fun k => okL (g k)) && decide ((List.range 8).map g).Nodup = true → Q (.ref D) H5 := fun H5 D g s5 b5 e5 f5 hg => by
      obtain ⟨g1, g2⟩ := names_of hg hm8
      refine q H5 D ((List.range m).map fun j => SL (g j)) s5 b5 (by rw [List.length_map, List.length_range]) g1 g2 ?_ f5
      rw [e5, em, List.map_map]; rfl
    by_cases c0 : d1 = 0
    · subst c0
      refine ⟨_, rfl, rfl, true, rfl, _, rfl, _, _, rfl, rfl, true, congrArg V.bl (decide_eq_true (by omega)), ?_⟩
      refine ⟨_, rfl, _, rfl, m, rfl, by omega, by omega, fun D2 hD2 => lcS (wk_range _) hD2 (fun j => some (.str (SL (nm0 a j)))) (by rw [List.length_range]; omega) (fun _ _ => trivial) (fun i j x H5 H' Pn Py hj u hy kn ky => ?_) (fun H5 u5 e5 => ?_)⟩
      · obtain ⟨rfl, rfl⟩ := hy
        obtain ⟨rfl, hi⟩ := range_get hj
        refine ⟨rfl, _, rfl, _, rfl, _, _, rfl, rfl, _, rfl, SL (bsL a), rfl, bsl, ky _ _ (fun _ _ h => h) ?_⟩
        show some (V.str (SL (nm0 a j))) = some (V.str (cutS (SL (bsL a)) none (some (0 + (j : Int) + 1))))
        rw [show (0 + (j : Int) + 1) = ((j + 1 : Nat) : Int) by omega, cut_take]; rfl
      · rw [fm_some, em] at e5
        have b5 := b4.up u5
        obtain ⟨bx5, hbx5⟩ := b5.ex
        have hbD : b ≠ D2 := ne_of_none hbx4 hD2
        obtain ⟨g1, g2⟩ := names_of (all0 ⟨a, ha⟩) hm8
        refine ⟨b, D2, (List.range m).map fun j => SL (nm0 a j), k + 2, rfl, by rw [e5, List.map_map]; rfl, b5, hbD, by omega, by rw [List.length_map, List.length_range]; omega, fun H6 a6 ss s6 b6 pm e6 f6 => ?_⟩
        have S5 := S4.tr (StB.of u5)
        refine q H6 a6 ss (S5.tr s6) (b6.mono (by rw [List.length_map, List.length_range]; omega)) (by rw [pm.length_eq, List.length_map, List.length_range]) (pm.nodup_iff.mpr g1) (fun n hn => g2 n (pm.mem_iff.mp hn)) e6 (frH _ _ S5 ⟨_, hbx5⟩ f6)
    · refine ⟨_, rfl, rfl, false, congrArg V.bl (decide_eq_false (fun z => c0 (V.int.inj z))), ?_⟩
      refine ⟨_, rfl, b, 8, k + 2, rfl, b4, by omega, by decide, by decide, fun H5 d5 s5 b5 d50 d51 => ?_⟩
      obtain ⟨sz, rfl⟩ : ∃ sz : Nat, d5 = sz := ⟨d5.toNat, by omega⟩
      have hsz : sz < 8 := by omega
      have S5 := S4.tr s5
      obtain ⟨bx5, hbx5⟩ := b5.ex
      have cl : ∀ x : Option Int, (cutS (SL (bsL a)) none x).length ≤ 8 := fun x => Nat.le_trans (cutS_length _ _ _) (by show (bsL a).toArray.size ≤ 8; rw [List.size_toArray]; unfold bsL; rw [List.length_map, List.length_range]; decide)
      by_cases c1 : d1 = 1
      · subst c1
        refine ⟨_, rfl, rfl, true, rfl, ?_⟩
        refine ⟨_, rfl, m, rfl, by omega, by omega, fun D2 hD2 => lcS (wk_range _) hD2 (fun j => some (.str (SL (nm1 a sz j)))) (by rw [List.length_range]; omega) (fun _ _ => trivial) (fun i j x H6 H' Pn Py hj u hy kn ky => ?_) (fun H6 u6 e6 => ?_)⟩
        · obtain ⟨rfl, rfl⟩ := hy
          obtain ⟨rfl, hi⟩ := range_get hj
          refine ⟨rfl, _, rfl, _, rfl, _, rfl, SL (bsL a), rfl, bsl, _, rfl, _, rfl, _, rfl, 7, _, rfl, rfl, .inl (by decide), _, _, rfl, rfl, .inl ⟨_, rfl, _, _, rfl, rfl, (by show (0 : Int) < 26; decide), abcN, _, _, rfl, rfl, abcl, ltr_at a j 7, _, _, rfl, rfl, ?_, ky _ _ (fun _ _ h => h) ?_⟩⟩
          · exact line8 (by have := cl (some (sz : Int)); show _ + 1 ≤ _; omega)
          · show some (V.str (SL (nm1 a sz j))) = some (V.str (cutS (SL (bsL a)) none (some (sz : Int)) ++ SL [ltr a 7 j]))
            rw [cut_take, SL_app]; rfl
        · rw [fm_some] at e6
          exact fin H6 D2 (nm1 a sz) (S5.tr (StB.of u6)) ((b5.up u6).mono (by omega)) e6 (frH _ _ S5 ⟨_, hbx5⟩ hD2) (all1 ⟨a, ha⟩ ⟨sz, hsz⟩)
      · refine ⟨_, rfl, rfl, false, congrArg V.bl (decide_eq_false (fun z => c1 (V.int.inj z))), ?_⟩
        refine ⟨_, rfl, m, rfl, by omega, by omega, fun D2 hD2 => lcS (wk_range _) hD2 (fun j => some (.str (SL (nm2 a sz j)))) (by rw [List.length_range]; omega) (fun _ _ => trivial) (fun i j x H6 H' Pn Py hj u hy kn ky => ?_) (fun H6 u6 e6 => ?_)⟩
        · obtain ⟨rfl, rfl⟩ := hy
          obtain ⟨rfl, hi⟩ := range_get hj
          refine ⟨rfl, _, rfl, _, rfl, _, rfl, 7, _, rfl, rfl, .inl (by decide), _, _, rfl, rfl, .inl ⟨_, rfl, _, _, rfl, rfl, (by show (0 : Int) < 26; decide), abcN, _, _, rfl, rfl, abcl, ltr_at a j 7, ?_⟩⟩
          refine ⟨_, rfl, _, rfl, _, rfl, _, _, rfl, rfl, (by show (0 : Int) < 2; decide), (sz : Int), _, rfl, rfl, .inl ⟨by omega, by omega⟩, _, rfl, SL (bsL a), rfl, bsl, _, _, rfl, rfl, ?_, ky _ _ (fun _ _ h => h) ?_⟩
          · exact line8 (by have := cl (some ((sz : Int) * ((0 + (j : Int)) % 2))); show 1 + _ ≤ _; omega)
          · show some (V.str (SL (nm2 a sz j))) = some (V.str (SL [ltr a 7 j] ++ cutS (SL (bsL a)) none (some ((sz : Int) * ((0 + (j : Int)) % 2)))))
            rw [show ((sz : Int) * ((0 + (j : Int)) % 2)) = ((sz * (j % 2) : Nat) : Int) by rw [Int.zero_add]; simp, cut_take, SL_app]; rfl
        · rw [fm_some] at e6
          exact fin H6 D2 (nm2 a sz) (S5.tr (StB.of u6)) ((b5.up u6).mono (by omega)) e6 (frH _ _ S5 ⟨_, hbx5⟩ hD2) (all2 ⟨a, ha⟩ ⟨sz, hsz⟩)
end
end SH
/-! W23 -/
set_option Elab.async false
set_option linter.all false
set_option maxRecDepth 100000
set_option maxHeartbeats 2000000
namespace SH
open PySem PySem.Spec PyProof.Rows L2 LamX
section
variable {P : Program} {w : World} {K : Frg} {mg : Str → Option Value} {base : Heap}
def spHt : Sp := fun vs H Q _ => ∃ (b : Addr) (wy : Int) (k : Nat), vs = [.ref b, .int wy] ∧ BoxAt H b k ∧ k ≤ 900000 ∧ ∀ H' h, StB b H H' → BoxAt H' b (k + 2) → GoodH h → Q (.int h) H'
theorem sc_Ht : FnScope ["_law_box_here", "_law_way", "_law_small"] ["_law_box_here", "_law_way"] (defScope s_law_height) := sc_of
theorem c_height (t : T K mg) : Cal P w K mg base 2 "_law_height" spHt [] := by
  refine cal_of t.d_law_height sc_Ht (fun _ _ _ _ _ _ us hl => match us, hl with | [_, _], _ => rfl) (fun vs H Q E h => ?_) (fun f cdv A outer s H vs Q E hr h => ?_)
  · obtain ⟨a, _, _, rfl, _⟩ := h
    rfl
  · obtain ⟨b, wy, k, rfl, hb, hk, q⟩ := h
    have nd := sc_Ht.nd
    refine ⟨_, pss_cons (sv 2 nd (pe_c (c_take t) hr (by decide) (pa_cons (pv 0) (pa_cons pe_int pa_nil))))
      (pss_cons (ps_if (pt_cmpR op_eq (pv 1) pe_int (nomark _)) (pss_one (ps_ret (pv 2))) pss_nil)
      (pss_cons (ps_if (pt_cmpR op_eq (pv 1) pe_int (nomark _)) (pss_one (ps_ret (pe_op op_add (pe_op op_sub (pe_op op_mul pe_int (pv 2)) pe_int) (pe_c (c_take t) hr (by decide) (pa_cons (pv 0) (pa_cons pe_int pa_nil)))))) pss_nil)
      (pss_cons (ps_if (pt_cmpR op_eq (pv 1) pe_int (nomark _)) (pss_one (ps_ret (pe_ix ix_list (pe_lst (pa_cons (pe_un un_neg (pe_op op_pow pe_int pe_int)) (pa_cons (pe_op op_pow pe_int pe_int) (pa_cons pe_int (pa_cons pe_int (pa_cons (pe_op op_sub (pe_op op_pow pe_int pe_int) pe_int) (pa_cons (pe_op op_sub pe_int (pe_op op_pow pe_int pe_int)) pa_nil))))))) (pv 2) (fun _ _ => rfl)))) pss_nil)
      (pss_one (ps_ret (pe_op op_mod (ct call_int1 t.n_int (pa_cons (pv 2) pa_nil)) pe_int)))))), ?_⟩
    refine ⟨_, rfl, b, 6, k, rfl, hb, by omega, by decide, by decide, fun H1 d s1 b1 d0 d1 => ?_⟩
    have gd : GoodH d := ⟨by omega, by omega⟩
    refine ⟨_, rfl, rfl, _, rfl, ?_⟩
    refine ite2 (fun _ => ⟨_, rfl, q H1 d s1 (b1.mono (by omega)) gd⟩) (fun _ => ?_)
    refine ⟨_, rfl, rfl, _, rfl, ?_⟩
    refine ite2 (fun _ => ?_) (fun _ => ?_)
    · refine ⟨_, rfl, 1000, d, rfl, rfl, .inl (by decide), _, _, rfl, rfl, _, rfl, b, 2, k + 1, rfl, b1, by omega, by decide, by decide, fun H2 e s2 b2 e0 e1 => ⟨_, _, rfl, rfl, q H2 _ (s1.tr s2) (b2.mono (by omega)) ?_⟩⟩
      exact ⟨by omega, by omega⟩
    refine ⟨_, rfl, rfl, _, rfl, ?_⟩
    refine ite2 (fun _ => ?_) (fun _ => ?_)
    · have pw : CPow 10 12 := ⟨by decide, by decide, by decide⟩
      refine ⟨_, _, rfl, rfl, pw, _, rfl, _, _, rfl, rfl, pw, _, _, rfl, rfl, pw, _, _, rfl, rfl, _, _, rfl, rfl, pw, _, _, rfl, rfl, (by show (6 : Nat) ≤ sizeLine; exact line8 (by decide)), fun p hp => ?_⟩
      obtain ⟨j, rfl⟩ : ∃ j : Nat, d = j := ⟨d.toNat, by omega⟩
      have hj : j < 6 := by omega
      have key : ∃ h : Int, ([V.int (-(10 ^ (12 : Int).toNat)), V.int (10 ^ (12 : Int).toNat), V.int 0, V.int 1, V.int (10 ^ (12 : Int).toNat - 1), V.int (1 - 10 ^ (12 : Int).toNat)] : List V)[j]? = some (V.int h) ∧ GoodH h := by
        match j, hj with
        | 0, _ => exact ⟨_, rfl, by decide, by decide⟩
        | 1, _ => exact ⟨_, rfl, by decide, by decide⟩
        | 2, _ => exact ⟨_, rfl, by decide, by decide⟩
        | 3, _ => exact ⟨_, rfl, by decide, by decide⟩
        | 4, _ => exact ⟨_, rfl, by decide, by decide⟩
        | 5, _ => exact ⟨_, rfl, by decide, by decide⟩
      obtain ⟨h, e, g⟩ := key
      obtain ⟨bx, hbx⟩ := b1.ex
      exact ⟨_, rfl, p, _, (j : Int), _, rfl, rfl, SqL.of upd_same, atI_nat e, q _ h (s1.tr (StB.new hp)) ((b1.wr (ne_of_none hbx hp)).mono (by omega)) g⟩
    · refine ⟨_, rfl, .inl ⟨_, rfl, _, _, rfl, rfl, (by show (0 : Int) < 2; decide), q H1 _ s1 (b1.mono (by omega)) ?_⟩⟩
      exact ⟨by omega, by omega⟩
end
/-! ### a model -/
structure Md where
  ns : List Str
  lo : Str → Int
  hi : Str → Int
  ts : List Pr
  os : List Str
structure Md.Ok (M : Md) : Prop where
  nd : M.ns.Nodup
  one : 1 ≤ M.ns.length
  few : M.ns.length ≤ 8
  nm : ∀ n ∈ M.ns, NmOk n
  rng : ∀ n ∈ M.ns, GoodH (M.lo n) ∧ GoodH (M.hi n) ∧ M.lo n ≤ M.hi n
  tin : ∀ p ∈ M.ts, p.1 ∈ M.ns ∧ p.2 ∈ M.ns ∧ p.1 ≠ p.2
  tfew : M.ts.length ≤ 40
  ond : M.os.Nodup
  oin : ∀ o ∈ M.os, o ∈ M.ns
def MdW (H : Hp) (m : Addr) (M : Md) (kvs : List (Key × V)) (dl dh lt lo : Addr) : Prop := H m = some (.dK kvs) ∧ kvs.length ≤ 50 ∧ valV kvs (.inr "low") = some (.ref dl) ∧ valV kvs (.inr "high") = some (.ref dh) ∧ valV kvs (.inr "ties") = some (.ref lt) ∧ valV kvs (.inr "outlets") = some (.ref lo) ∧
  H dl = some (.dK (mp M.ns fun n => .int (M.lo n))) ∧ H dh = some (.dK (mp M.ns fun n => .int (M.hi n))) ∧ PairsAt H lt M.ts ∧ H lo = some (.lst (M.os.map V.str))
def MdAt (H : Hp) (m : Addr) (M : Md) : Prop := ∃ (kvs : List (Key × V)) (dl dh lt lo : Addr), MdW H m M kvs dl dh lt lo
theorem MdAt.up {K : Frg} {H H1 : Hp} {m : Addr} {M : Md} (x : MdAt H m M) (u : Up K H H1) : MdAt H1 m M := by
  obtain ⟨kvs, dl, dh, lt, lo, e, e4, e5, e6, e7, e8, h1, h2, h3, h4⟩ := x
  exact ⟨kvs, dl, dh, lt, lo, u.at e, e4, e5, e6, e7, e8, u.at h1, u.at h2, h3.up u, u.at h4⟩
end SH
/-! W24 -/
set_option Elab.async false
set_option linter.all false
set_option maxRecDepth 100000
set_option maxHeartbeats 2000000
namespace SH
open PySem PySem.Spec PyProof.Rows L2 LamX
theorem fresh_upd {H : Hp} {p q : Addr} {o : HO} (h : upd H p o q = none) : q ≠ p ∧ H q = none := by
  have n : q ≠ p := fun z => by rw [z, upd_same] at h; cases h
  exact ⟨n, by rw [upd_ne n] at h; exact h⟩
theorem StB.wrN {b p : Addr} {H H' : Hp} {o : HO} (x : StB b H H') (n : H p = none) : StB b H (upd H' p o) := fun a u h e => by
  rw [upd_ne (ne_of_none e n)]; exact x a u h e
theorem StB.fr {b p : Addr} {H H' : Hp} {k : Nat} (x : StB b H H') (hb : BoxAt H' b k) (n : H' p = none) : H p = none := by
  obtain ⟨xs, e⟩ := hb.ex
  cases c : H p with
  | none => rfl
  | some o =>
    by_cases z : p = b
    · rw [z, e] at n; cases n
    · rw [x p o z c] at n; cases n
theorem dgv {H : Hp} {m : Addr} {kvs : List (Key × V)} {n : Str} {v : V} (h : H m = some (.dK kvs)) (hv : valV kvs (.inr n) = some v) : DGet H m (.str n) (some v) := .inl ⟨kvs, .inr n, .inl h, rfl, hv.symm⟩
theorem PairsAt.app {H : Hp} {lt tp : Addr} {ts : List Pr} {xs : List V} (p : Pr) (x : PairsAt H lt ts) (e : H lt = some (.lst xs)) (hn : H tp = none) : PairsAt (upd (upd H tp (.tup [.str p.1, .str p.2])) lt (.lst (xs ++ [.ref tp]))) lt (ts ++ [p]) := by
  obtain ⟨L, eL, r, rfl⟩ := x
  rw [eL] at e
  cases e
  refine ⟨L ++ [(tp, p)], by rw [upd_same, List.map_append]; rfl, fun q hq => ?_, by rw [List.map_append]; rfl⟩
  rcases List.mem_append.mp hq with h | h
  · have := r q h
    rw [upd_ne (ne_of this eL (fun z => nomatch z)), upd_ne (ne_of_none this hn)]; exact this
  · rw [List.mem_singleton.mp h]
    rw [upd_ne (Ne.symm (ne_of_none eL hn)), upd_same]
theorem PairsAt.ls {H : Hp} {lt : Addr} {ts : List Pr} (x : PairsAt H lt ts) : ∃ xs, H lt = some (.lst xs) ∧ xs.length = ts.length := by
  obtain ⟨L, eL, r, rfl⟩ := x
  exact ⟨_, eL, by rw [List.length_map, List.length_map]⟩
theorem PairsAt.st {H H' : Hp} {b lt : Addr} {ts : List Pr} (x : PairsAt H lt ts) (s : StB b H H') (n : b ≠ lt) (hb : ∃ xs, H b = some (.lst xs)) : PairsAt H' lt ts := by
  obtain ⟨L, eL, r, t⟩ := x
  obtain ⟨xs, hb⟩ := hb
  exact ⟨L, s _ _ (Ne.symm n) eL, fun q hq => s _ _ (ne_of (r q hq) hb (fun z => nomatch z)) (r q hq), t⟩
theorem dput_new {H : Hp} {a : Addr} {ks : List Str} {f : Str → Int} {n : Str} {v : Int} (h : H a = some (.dK (mp ks fun m => .int (f m)))) (hn : n ∉ ks) (few : ks.length ≤ 100000) : DPut H a (.str n) (.int v) (upd H a (.dK (mp (ks ++ [n]) fun m => .int (if m = n then v else f m)))) := by
  have := dput_any (o := n) (v := .int v) (g := fun m => .int (if m = n then v else f m)) h few (fun m => by split <;> rfl)
  rw [if_neg hn] at this
  exact this
/-- a model that is being made: where its parts lie -/
structure MF (H0 : Hp) (b m dl dh lt lo nl : Addr) (kvs : List (Key × V)) : Prop where
  fm : H0 m = none
  fl : H0 dl = none
  fh : H0 dh = none
  ft : H0 lt = none
  fo : H0 lo = none
  m1 : m ≠ dl
  m2 : m ≠ dh
  d1 : dl ≠ dh
  l1 : lt ≠ lo
  l2 : lt ≠ nl
  l3 : lo ≠ nl
  b1 : b ≠ lt
  b2 : b ≠ lo
  b3 : b ≠ nl
  k4 : kvs.length = 4
  v1 : valV kvs (.inr "low") = some (.ref dl)
  v2 : valV kvs (.inr "high") = some (.ref dh)
  v3 : valV kvs (.inr "ties") = some (.ref lt)
  v4 : valV kvs (.inr "outlets") = some (.ref lo)
structure MS (H0 H : Hp) (b m dl dh lt lo nl : Addr) (kvs : List (Key × V)) (ns dn : List Str) (los his : Str → Int) (ts : List Pr) (os : List Str) (k : Nat) : Prop where
  st : StB b H0 H
  bx : BoxAt H b k
  em : H m = some (.dK kvs)
  el : H dl = some (.dK (mp dn fun n => .int (los n)))
  eh : H dh = some (.dK (mp dn fun n => .int (his n)))
  et : PairsAt H lt ts
  eo : H lo = some (.lst (os.map V.str))
  en : H nl = some (.lst (ns.map V.str))
section
variable {H0 H H' : Hp} {b m dl dh lt lo nl : Addr} {kvs : List (Key × V)} {ns dn : List Str} {los his : Str → Int} {ts : List Pr} {os : List Str} {k j : Nat}
theorem MS.mono (x : MS H0 H b m dl dh lt lo nl kvs ns dn los his ts os k) (h : k ≤ j) : MS H0 H b m dl dh lt lo nl kvs ns dn los his ts os j := { x with bx := x.bx.mono h }
theorem MS.box (f : MF H0 b m dl dh lt lo nl kvs) (x : MS H0 H b m dl dh lt lo nl kvs ns dn los his ts os k) (s : StB b H H') (bx : BoxAt H' b j) : MS H0 H' b m dl dh lt lo nl kvs ns dn los his ts os j := by
  obtain ⟨xs, eb⟩ := x.bx.ex
  exact ⟨x.st.tr s, bx, s _ _ (ne_of x.em eb (fun z => nomatch z)) x.em, s _ _ (ne_of x.el eb (fun z => nomatch z)) x.el, s _ _ (ne_of x.eh eb (fun z => nomatch z)) x.eh, x.et.st s f.b1 ⟨xs, eb⟩, s _ _ (Ne.symm f.b2) x.eo, s _ _ (Ne.symm f.b3) x.en⟩
theorem MS.new (f : MF H0 b m dl dh lt lo nl kvs) (x : MS H0 H b m dl dh lt lo nl kvs ns dn los his ts os k) {p : Addr} {o : HO} (n : H p = none) : MS H0 (upd H p o) b m dl dh lt lo nl kvs ns dn los his ts os k := x.box f (StB.new n) (by
  obtain ⟨xs, eb⟩ := x.bx.ex
  exact x.bx.wr (ne_of_none eb n))
theorem MS.low (f : MF H0 b m dl dh lt lo nl kvs) (x : MS H0 H b m dl dh lt lo nl kvs ns dn los his ts os k) {n : Str} (hn : n ∉ dn) {l h : Int} :
    MS H0 (upd (upd H dl (.dK (mp (dn ++ [n]) fun m => .int (if m = n then l else los m)))) dh (.dK (mp (dn ++ [n]) fun m => .int (if m = n then h else his m)))) b m dl dh lt lo nl kvs ns (dn ++ [n]) (fun m => if m = n then l else los m) (fun m => if m = n then h else his m) ts os k := by
  obtain ⟨xs, eb⟩ := x.bx.ex
  have nx : ∀ a u, H a = some u → (∀ z, u ≠ .dK z) → upd (upd H dl (.dK (mp (dn ++ [n]) fun m => .int (if m = n then l else los m)))) dh (.dK (mp (dn ++ [n]) fun m => .int (if m = n then h else his m))) a = some u := fun a u e nu => by
    rw [upd_ne (ne_of e x.eh (nu _)), upd_ne (ne_of e x.el (nu _))]; exact e
  obtain ⟨L, eL, r, t⟩ := x.et
  obtain ⟨bx, by', bz, e, q⟩ := x.bx
  exact ⟨(x.st.wrN f.fl).wrN f.fh, ⟨bx, by', bz, nx _ _ e (fun z c => nomatch c), q⟩, by rw [upd_ne f.m2, upd_ne f.m1]; exact x.em, by rw [upd_ne f.d1, upd_same], upd_same, ⟨L, nx _ _ eL (fun z c => nomatch c), fun q hq => nx _ _ (r q hq) (fun z c => nomatch c), t⟩, nx _ _ x.eo (fun z c => nomatch c), nx _ _ x.en (fun z c => nomatch c)⟩
theorem MS.tie (f : MF H0 b m dl dh lt lo nl kvs) (x : MS H0 H b m dl dh lt lo nl kvs ns dn los his ts os k) {tp : Addr} {xs : List V} (e : H lt = some (.lst xs)) (hn : H tp = none) (p : Pr) :
    MS H0 (upd (upd H tp (.tup [.str p.1, .str p.2])) lt (.lst (xs ++ [.ref tp]))) b m dl dh lt lo nl kvs ns dn los his (ts ++ [p]) os k := by
  have y := x.new f (o := .tup [.str p.1, .str p.2]) hn
  have e' : upd H tp (.tup [.str p.1, .str p.2]) lt = some (.lst xs) := ext_new hn _ _ e
  obtain ⟨bx, by', bz, eb, q⟩ := y.bx
  exact ⟨y.st.wrN f.ft, ⟨bx, by', bz, (upd_ne f.b1).trans eb, q⟩, by rw [upd_ne (ne_of y.em e' (fun z => nomatch z))]; exact y.em, by rw [upd_ne (ne_of y.el e' (fun z => nomatch z))]; exact y.el, by rw [upd_ne (ne_of y.eh e' (fun z => nomatch z))]; exact y.eh, x.et.app p e hn, by rw [upd_ne (Ne.symm f.l1)]; exact y.eo, by rw [upd_ne (Ne.symm f.l2)]; exact y.en⟩
theorem MS.out (f : MF H0 b m dl dh lt lo nl kvs) (x : MS H0 H b m dl dh lt lo nl kvs ns dn los his ts os k) (n : Str) :
    MS H0 (upd H lo (.lst (os.map V.str ++ [.str n]))) b m dl dh lt lo nl kvs ns dn los his ts (os ++ [n]) k := by
  obtain ⟨bx, by', bz, eb, q⟩ := x.bx
  obtain ⟨L, eL, r, t⟩ := x.et
  exact ⟨x.st.wrN f.fo, ⟨bx, by', bz, (upd_ne f.b2).trans eb, q⟩, by rw [upd_ne (ne_of x.em x.eo (fun z => nomatch z))]; exact x.em, by rw [upd_ne (ne_of x.el x.eo (fun z => nomatch z))]; exact x.el, by rw [upd_ne (ne_of x.eh x.eo (fun z => nomatch z))]; exact x.eh,
    ⟨L, (upd_ne f.l1).trans eL, fun q hq => by rw [upd_ne (ne_of (r q hq) x.eo (fun z => nomatch z))]; exact r q hq, t⟩, by rw [upd_same, List.map_append]; rfl, by rw [upd_ne (Ne.symm f.l3)]; exact x.en⟩
end
theorem walk_enumN {K : Frg} {a : Addr} (ns : List Str) : Walk (Ite K a) ns.length (fun H => SqL K H a (ns.map V.str)) (fun i H x H' => ∃ T n, ns[i]? = some n ∧ x = .ref T ∧ H T = none ∧ H' = upd H T (.tup [.int (i : Nat), .str n])) := by
  have := walk_enum (K := K) (a := a) (xs := ns.map V.str)
  rw [List.length_map] at this
  exact this.mono (fun _ h => h) fun i H x H' hi _ y => by
    obtain ⟨T, u, v, h1, h2, h3, h4, h5⟩ := y
    have h4 : some (V.int (i : Nat)) = some u := h4
    have h5 : (ns.map V.str)[i]? = some v := h5
    rw [List.getElem?_map] at h5
    obtain ⟨n, e1, e2⟩ := Option.map_eq_some_iff.mp h5
    cases h4
    exact ⟨T, n, e1, h1, h2, by rw [h3, e2]⟩
section
variable {X : Cx} {o e : Expr} {es : List Expr} {to : TE} {t : TA} {pos apos : Pos}
variable {P : Program} {w : World} {K : Frg} {mg : Str → Option Value} {base : Heap}
abbrev nMd : List Str := ["_law_box_here", "_law_most", "_law_many", "_law_names_here", "_law_way", "_law_shape", "_law_model_here", "_law_drains", "_law_wide", "_law_k", "_law_name", "_law_one", "_law_other", "_law_least", "_law_far", "_law_lap", "_law_a", "_law_b"]
def spMd : Sp := fun vs H Q _ => ∃ (b : Addr) (k : Nat), vs = [.ref b, .int 8] ∧ BoxAt H b k ∧ k ≤ 500000 ∧ ∀ (H' : Hp) (m : Addr) (M : Md) (kvs : List (Key × V)) (dl dh lt lo : Addr), StB b H H' → BoxAt H' b (k + 1000) → MdW H' m M kvs dl dh lt lo → b ≠ lt → b ≠ lo → M.Ok → H m = none → Q (.ref m) H'
theorem sc_Md : FnScope nMd ["_law_box_here", "_law_most"] (defScope s_law_model) := sc_of
theorem c_model (t : T K mg) : Cal P w K mg base 4 "_law_model" spMd [] := by
  refine cal_of t.d_law_model sc_Md (fun _ _ _ _ _ _ us hl => match us, hl with | [_, _], _ => rfl) (fun vs H Q E h => ?_) (fun f cdv A outer s H vs Q E hr h => ?_)
  · obtain ⟨a, _, rfl, _⟩ := h
    rfl
  · obtain ⟨b, k, rfl, hb, hk, q⟩ := h
    have nd := sc_Md.nd
    have hu := hu_of hr
    have hu65 : (A.deeper (envOfC ("_law_model" : Str) (defScope s_law_model) s.heap.objs.size f cdv)).units + 65 < cLine := by have := hr.un; omega
    refine ⟨_, pss_cons (sv 2 nd (pe_op op_add pe_int (pe_c (c_take t) hr (by decide) (pa_cons (pv 0) (pa_cons (pv 1) pa_nil)))))
      (pss_cons (ps_par3 (i := 3) (j := 4) (l := 5) rfl nd rfl rfl rfl (by decide) (by decide) (by decide) rfl rfl rfl (pa_cons (pe_c (c_names t) hr (by decide) (pa_cons (pv 0) (pa_cons (pv 2) pa_nil))) (pa_cons (pe_c (c_take t) hr (by decide) (pa_cons (pv 0) (pa_cons pe_int pa_nil))) (pa_cons (pe_c (c_take t) hr (by decide) (pa_cons (pv 0) (pa_cons pe_int pa_nil))) pa_nil))) (by with_unfolding_all rfl))
      (pss_cons (sv 6 nd (pe_disp (pps_cons pe_str pe_dnewK (pps_cons pe_str pe_dnewK (pps_cons pe_str (pe_lst pa_nil) (pps_cons pe_str (pe_lst pa_nil) pps_nil)))) rfl rfl (List.cons_ne_nil _ _) (by decide)))
      (pss_cons (ps_par (i := 7) (j := 8) rfl nd rfl rfl (by decide) rfl rfl (pa_cons (pe_c (c_take t) hr (by decide) (pa_cons (pv 0) (pa_cons pe_int pa_nil))) (pa_cons (pe_ix ix_list (pe_lst (pa_cons pe_int (pa_cons pe_int (pa_cons pe_int (pa_cons pe_int pa_nil))))) (pe_c (c_take t) hr (by decide) (pa_cons (pv 0) (pa_cons pe_int pa_nil))) (fun _ _ => rfl)) pa_nil)) (by with_unfolding_all rfl))
      (pss_cons (ps_for PassesOwn.never rfl (pi_enum rfl t.n_enumerate (pa_cons (pv 3) pa_nil)) (pg_tup rfl (pgs_cons (gv 9 nd) (pgs_cons (gv 10 nd) pgs_nil)))
        (pss_cons (ps_par (i := 11) (j := 12) rfl nd rfl rfl (by decide) rfl rfl (pa_cons (pe_c (c_height t) hr (by decide) (pa_cons (pv 0) (pa_cons (pv 4) pa_nil))) (pa_cons (pe_c (c_height t) hr (by decide) (pa_cons (pv 0) (pa_cons (pv 4) pa_nil))) pa_nil)) (by with_unfolding_all rfl))
        (pss_cons (ps_par (i := 13) (j := 1) rfl nd rfl rfl (by decide) rfl rfl (pa_cons (cb (call_min2 rfl) t.n_min (pa_cons (pv 11) (pa_cons (pv 12) pa_nil))) (pa_cons (cb (call_max2 rfl) t.n_max (pa_cons (pv 11) (pa_cons (pv 12) pa_nil))) pa_nil)) (by with_unfolding_all rfl))
        (pss_cons (ps_if (pt_cmpR op_lt (pv 8) pe_int (nomark _)) (pss_one (sv 1 nd (cb (call_min2 rfl) t.n_min (pa_cons (pe_op op_pow pe_int pe_int) (pa_cons (pe_op op_add (pv 13) (pe_c (c_take t) hr (by decide) (pa_cons (pv 0) (pa_cons (pe_op op_add pe_int (pv 8)) pa_nil)))) pa_nil))))) pss_nil)
        (pss_cons (ps_asg (pe_tup (pa_cons (pv 13) (pa_cons (pv 1) pa_nil))) (pg_tup rfl (pgs_cons (pg_sub (pe_dget hu (pv 6) pe_str (fun _ _ => rfl)) (pv 10) (set_dict hu)) (pgs_cons (pg_sub (pe_dget hu (pv 6) pe_str (fun _ _ => rfl)) (pv 10) (set_dict hu)) pgs_nil))))
        (pss_cons (sv 14 nd (pe_ix ix_list (pe_lst (pa_cons (pe_op op_sub (pv 9) pe_int) (pa_cons (pe_c (c_take t) hr (by decide) (pa_cons (pv 0) (pa_cons (cb (call_max2 rfl) t.n_max (pa_cons pe_int (pa_cons (pv 9) pa_nil))) pa_nil))) (pa_cons pe_int (pa_cons (pe_c (c_take t) hr (by decide) (pa_cons (pv 0) (pa_cons (pe_op op_add (pe_op op_mul pe_int (pv 9)) pe_int) pa_nil))) (pa_cons (pv 9) pa_nil)))))) (pv 5) (fun _ _ => rfl)))
        (pss_cons (ps_if (pt_chain op_le op_lt pe_int (pv 14) (pv 9)) (pss_one (ps_expr (pe_bm PySem.F.plainAttrs_list PySem.F.slot_list_append PySem.F.type_list_append mt_append (pe_dget hu (pv 6) pe_str (fun _ _ => rfl)) (pa_cons (pe_tup (pa_cons (pe_ix ix_list (pv 3) (pv 14) (fun _ _ => rfl)) (pa_cons (pv 10) pa_nil))) pa_nil)))) pss_nil)
        (pss_one (ps_if (PW.pt (pw_or (PW.pt (pw_and (pt_cmpR op_eq (pv 7) pe_int (nomark _)) (pw_and1 (pt_cmpR op_eq (pe_c (c_take t) hr (by decide) (pa_cons (pv 0) (pa_cons pe_int pa_nil))) pe_int (nomark _))))) (pw_or1 (PW.pt (pw_and (pt_cmpR op_eq (pv 7) pe_int (nomark _)) (pw_and1 (pt_cmpR op_eq (pv 9) pe_int (nomark _))))))))
            (pss_one (ps_expr (pe_bm PySem.F.plainAttrs_list PySem.F.slot_list_append PySem.F.type_list_append mt_append (pe_dget hu (pv 6) pe_str (fun _ _ => rfl)) (pa_cons (pv 10) pa_nil)))) pss_nil)))))))))
      (pss_cons (ps_for PassesOwn.never rfl (pi_range1 rfl t.n_range (pa_cons (pe_c (c_take t) hr (by decide) (pa_cons (pv 0) (pa_cons pe_int pa_nil))) pa_nil)) (gv 15 nd)
        (pss_cons (ps_par (i := 16) (j := 17) rfl nd rfl rfl (by decide) rfl rfl (pa_cons (pe_ix ix_list (pv 3) (pe_c (c_take t) hr (by decide) (pa_cons (pv 0) (pa_cons (pv 2) pa_nil))) (fun _ _ => rfl)) (pa_cons (pe_ix ix_list (pv 3) (pe_c (c_take t) hr (by decide) (pa_cons (pv 0) (pa_cons (pv 2) pa_nil))) (fun _ _ => rfl)) pa_nil)) (by with_unfolding_all rfl))
        (pss_one (ps_if (PW.pt (pw_and (pt_cmpR op_ne (pv 16) (pv 17) (nomark _)) (pw_and (pt_cmpR (op_notInD hu65) (pe_tup (pa_cons (pv 16) (pa_cons (pv 17) pa_nil))) (pe_dget hu (pv 6) pe_str (fun _ _ => rfl)) rfl) (pw_and1 (pt_cmpR (op_notInD hu65) (pe_tup (pa_cons (pv 17) (pa_cons (pv 16) pa_nil))) (pe_dget hu (pv 6) pe_str (fun _ _ => rfl)) rfl)))))
            (pss_one (ps_expr (pe_bm PySem.F.plainAttrs_list PySem.F.slot_list_append PySem.F.type_list_append mt_append (pe_dget hu (pv 6) pe_str (fun _ _ => rfl)) (pa_cons (pe_tup (pa_cons (pv 16) (pa_cons (pv 17) pa_nil))) pa_nil)))) pss_nil))))
      (pss_one (ps_ret (pv 6)))))))), ?_⟩
    have l0 : (0 : Nat) ≤ sizeLine := Nat.zero_le _
    refine ⟨_, rfl, _, rfl, b, 8, k, rfl, hb, by omega, by decide, by decide, fun H1 d1 s1 b1 d10 d11 => ⟨_, _, rfl, rfl, ?_⟩⟩
    obtain ⟨n, hn⟩ : ∃ n : Nat, 1 + d1 = n := ⟨(1 + d1).toNat, by omega⟩
    have hn1 : 1 ≤ n := by omega
    have hn8 : n ≤ 8 := by omega
    refine ⟨_, rfl, _, rfl, b, (1 + d1), n, k + 1, rfl, hn, b1, hn1, hn8, by omega, fun H2 nl ns s2 b2 nlen nnd nok en2 fnl => ?_⟩
    refine ⟨_, rfl, b, 5, k + 21, rfl, b2, by omega, by decide, by decide, fun H3 wy s3 b3 w0 w1 => ⟨_, rfl, b, 5, k + 22, rfl, b3, by omega, by decide, by decide, fun H4 sh s4 b4 h0 h1 => ⟨_, _, _, rfl, ?_⟩⟩⟩
    obtain ⟨bx1, hbx1⟩ := b1.ex
    have bnl : b ≠ nl := ne_of_none hbx1 fnl
    have en4 := s4 nl _ (Ne.symm bnl) (s3 nl _ (Ne.symm bnl) en2)
    have S4 : StB b H H4 := ((s1.tr s2).tr s3).tr s4
    refine fun m hm dl hdl dh hdh => ⟨l0, fun lt hlt => ⟨l0, fun lo hlo => ⟨?_, [(Sum.inr "low", .ref dl), (Sum.inr "high", .ref dh), (Sum.inr "ties", .ref lt), (Sum.inr "outlets", .ref lo)], rfl, (by decide : (4 : Nat) ≤ 15), ?_⟩⟩⟩
    · obtain ⟨c1, q1⟩ := fresh_upd hlo
      obtain ⟨c2, q2⟩ := fresh_upd q1
      obtain ⟨c3, q3⟩ := fresh_upd q2
      obtain ⟨c4, q4⟩ := fresh_upd q3
      obtain ⟨e1, r1⟩ := fresh_upd hlt
      obtain ⟨e2, r2⟩ := fresh_upd r1
      obtain ⟨e3, r3⟩ := fresh_upd r2
      obtain ⟨g1, t1⟩ := fresh_upd hdh
      obtain ⟨g2, t2⟩ := fresh_upd t1
      obtain ⟨i1, u1⟩ := fresh_upd hdl
      rw [upd_ne (Ne.symm c4), upd_ne (Ne.symm e3), upd_ne (Ne.symm g2), upd_ne (Ne.symm i1), upd_same]
    obtain ⟨c1, q1⟩ := fresh_upd hlo
    obtain ⟨c2, q2⟩ := fresh_upd q1
    obtain ⟨c3, q3⟩ := fresh_upd q2
    obtain ⟨c4, q4⟩ := fresh_upd q3
    obtain ⟨e1, r1⟩ := fresh_upd hlt
    obtain ⟨e2, r2⟩ := fresh_upd r1
    obtain ⟨e3, r3⟩ := fresh_upd r2
    obtain ⟨g1, t1⟩ := fresh_upd hdh
    obtain ⟨g2, t2⟩ := fresh_upd t1
    obtain ⟨i1, u1⟩ := fresh_upd hdl
    obtain ⟨bx4, hbx4⟩ := b4.ex
    have frs : ∀ p, H4 p = none → H p = none := fun p h => S4.fr b4 h
    generalize hkv : mergeK [] [(Sum.inr "low", V.ref dl), (Sum.inr "high", V.ref dh), (Sum.inr "ties", V.ref lt), (Sum.inr "outlets", V.ref lo)] = kvs
    have F : MF H b m dl dh lt lo nl kvs := by
      rw [← hkv]
      exact ⟨frs m hm, frs dl u1, frs dh t2, frs lt r3, frs lo q4, Ne.symm i1, Ne.symm g2, Ne.symm g1, Ne.symm c1, Ne.symm (ne_of_none en4 r3), Ne.symm (ne_of_none en4 q4), ne_of_none hbx4 r3, ne_of_none hbx4 q4, bnl, rfl, rfl, rfl, rfl, rfl⟩
    have M0 : MS H (upd (upd (upd (upd (upd (upd H4 m (.dK [])) dl (.dK [])) dh (.dK [])) lt (.lst [])) lo (.lst [])) m (.dK kvs)) b m dl dh lt lo nl kvs ns [] (fun _ => 0) (fun _ => 0) [] [] (k + 23) := by
      have old : ∀ x u, H4 x = some u → upd (upd (upd (upd (upd (upd H4 m (.dK [])) dl (.dK [])) dh (.dK [])) lt (.lst [])) lo (.lst [])) m (.dK kvs) x = some u := fun x u h => by
        rw [upd_ne (ne_of_none h hm), upd_ne (ne_of_none h q4), upd_ne (ne_of_none h r3), upd_ne (ne_of_none h t2), upd_ne (ne_of_none h u1), upd_ne (ne_of_none h hm)]; exact h
      refine ⟨S4.tr (StB.of old), ?_, upd_same, ?_, ?_, ⟨[], ?_, fun q h => by simp at h, rfl⟩, ?_, old _ _ en4⟩
      · obtain ⟨x, y, z, e, q⟩ := b4
        exact ⟨x, y, z, old _ _ e, q⟩
      · rw [upd_ne i1, upd_ne (Ne.symm c3), upd_ne (Ne.symm e2), upd_ne (Ne.symm g1), upd_same]; rfl
      · rw [upd_ne g2, upd_ne (Ne.symm c2), upd_ne (Ne.symm e1), upd_same]; rfl
      · rw [upd_ne e3, upd_ne (Ne.symm c1), upd_same]; rfl
      · rw [upd_ne c4, upd_same]; rfl
    generalize upd (upd (upd (upd (upd (upd H4 m (.dK [])) dl (.dK [])) dh (.dK [])) lt (.lst [])) lo (.lst [])) m (.dK kvs) = H5 at M0 ⊢
    refine ⟨_, rfl, b, 4, k + 23, rfl, M0.bx, by omega, by decide, by decide, fun H6 dr s6 b6 dr0 dr1 => ?_⟩
    have M6 := M0.box F s6 b6
    refine ⟨(by show (4 : Nat) ≤ sizeLine; exact line8 (by decide)), fun p4 hp4 => ?_⟩
    have M6' := M6.new F (o := .lst [.int 0, .int 1, .int 3, .int 7]) hp4
    have bp4 : b ≠ p4 := by obtain ⟨xs, e⟩ := M6.bx.ex; exact ne_of_none e hp4
    refine ⟨_, rfl, b, 4, k + 24, rfl, M6'.bx, by omega, by decide, by decide, fun H7 wd s7 b7 wd0 wd1 => ?_⟩
    have M7 := M6'.box F s7 b7
    obtain ⟨wj, rfl⟩ : ∃ j : Nat, wd = j := ⟨wd.toNat, by omega⟩
    obtain ⟨wi, hwi, wi0, wi7⟩ : ∃ wi : Int, ([V.int 0, .int 1, .int 3, .int 7] : List V)[wj]? = some (.int wi) ∧ 0 ≤ wi ∧ wi ≤ 7 := by
      have : wj < 4 := by omega
      match wj, this with
      | 0, _ => exact ⟨0, rfl, by decide, by decide⟩
      | 1, _ => exact ⟨1, rfl, by decide, by decide⟩
      | 2, _ => exact ⟨3, rfl, by decide, by decide⟩
      | 3, _ => exact ⟨7, rfl, by decide, by decide⟩
    refine ⟨p4, _, (wj : Int), _, rfl, rfl, SqL.of (s7 p4 _ (Ne.symm bp4) upd_same), atI_nat hwi, ⟨_, _, rfl, ?_⟩⟩
    refine ⟨_, rfl, nl, _, rfl, SqL.of M7.en, for_it (walk_enumN ns) (fun i σ H' => ∃ (o1 o9 o10 o11 o12 o13 o14 : Option V) (los his : Str → Int) (ts : List Pr) (os : List Str),
      σ = [some (.ref b), o1, some (.int (1 + d1)), some (.ref nl), some (.int wy), some (.int sh), some (.ref m), some (.int dr), some (.int wi), o9, o10, o11, o12, o13, o14, none, none, none] ∧
      MS H H' b m dl dh lt lo nl kvs ns (ns.take i) los his ts os (k + 25 + 20 * i) ∧ (∀ x ∈ ns.take i, GoodH (los x) ∧ GoodH (his x) ∧ los x ≤ his x) ∧ (∀ p ∈ ts, p.1 ∈ ns ∧ p.2 ∈ ns ∧ p.1 ≠ p.2) ∧ ts.length ≤ i ∧ os.Nodup ∧ ∀ x ∈ os, x ∈ ns.take i)
      ⟨_, _, _, _, _, _, _, _, _, _, _, rfl, M7, fun x h => by simp at h, fun p h => by simp at h, Nat.le_refl _, List.nodup_nil, fun x h => by simp at h⟩ (fun i σ H' _ h => let ⟨_, _, _, _, _, _, _, _, _, _, _, _, M, _⟩ := h; SqL.of M.en) (fun i x σ H8 H9 hi h hy => ?_) (fun σ H8 h => ?_)⟩
    · obtain ⟨sj, rfl⟩ : ∃ j : Nat, sh = j := ⟨sh.toNat, by omega⟩
      have hsj : sj < 5 := by omega
      obtain ⟨o1, o9, o10, o11, o12, o13, o14, los, his, ts, os, rfl, M, rng, tin, tlen, ond, oin⟩ := h
      obtain ⟨T, nm, hnm, rfl, hT, rfl⟩ := hy
      have M1 := M.new F (o := .tup [.int (i : Nat), .str nm]) hT
      have hnew := nodup_take_new nnd hnm
      have hnn := List.mem_of_getElem? hnm
      have few : (ns.take i).length ≤ 100000 := by rw [List.length_take]; omega
      have olen : os.length ≤ 100000 := by have := len_of_nodup ond oin; omega
      have oin2 : ∀ x ∈ ns.take i, x ∈ ns.take (i + 1) := fun x h => by rw [take_next hnm]; exact List.mem_append_left _ h
      have nmt : nm ∈ ns.take (i + 1) := by rw [take_next hnm]; exact List.mem_append_right _ (List.mem_singleton_self _)
      have ond' : (os ++ [nm]).Nodup := List.nodup_append.mpr ⟨ond, List.nodup_cons.mpr ⟨by simp, List.nodup_nil⟩, fun a ha c hc z => hnew (by rw [← List.mem_singleton.mp hc, ← z]; exact oin a ha)⟩
      have oin' : ∀ x ∈ os ++ [nm], x ∈ ns.take (i + 1) := fun x hx => by
        rcases List.mem_append.mp hx with z | z
        · exact oin2 x (oin x z)
        · rw [List.mem_singleton.mp z]; exact nmt
      refine ⟨T, _, rfl, SqT.of upd_same, rfl, _, _, rfl, _, _, rfl, rfl, ?_⟩
      refine ⟨_, rfl, _, rfl, b, wy, _, rfl, M1.bx, by omega, fun Ha hx sa ba ga => ⟨_, rfl, _, rfl, b, wy, _, rfl, ba, by omega, fun Hb hv sb bb gb => ⟨_, _, rfl, ?_⟩⟩⟩
      have M2 := (M1.box F sa ba).box F sb bb
      refine ⟨_, rfl, _, rfl, hx, hv, rfl, _, rfl, _, rfl, hx, hv, rfl, _, _, rfl, ?_⟩
      have fle : GoodH (if hv < hx then hv else hx) ∧ GoodH (if hv > hx then hv else hx) ∧ (if hv < hx then hv else hx) ≤ (if hv > hx then hv else hx) := by
        obtain ⟨a1, a2⟩ := ga
        obtain ⟨b1', b2'⟩ := gb
        refine ⟨⟨?_, ?_⟩, ⟨?_, ?_⟩, ?_⟩ <;> (split <;> (try split) <;> omega)
      generalize (if hv < hx then hv else hx) = le at fle ⊢
      generalize (if hv > hx then hv else hx) = mo at fle ⊢
      obtain ⟨gle, gmo, hlm⟩ := fle
      refine ⟨_, rfl, _, _, rfl, rfl, _, rfl, ?_⟩
      refine ite2 (fun hw7 => ?_) (fun hw7 => ?_)
      · refine ⟨_, _, rfl, rfl, ⟨by decide, by decide, by decide⟩, _, rfl, _, rfl, _, rfl, _, _, rfl, rfl, b, _, _, rfl, M2.bx, by omega, by omega, by omega, fun Hc dv sc bc dv0 dv1 => ⟨_, _, rfl, rfl, _, _, rfl, ?_⟩⟩
        have M3 := M2.box F sc bc
        have fmo : GoodH (if le + dv < 10 ^ (12 : Int).toNat then le + dv else 10 ^ (12 : Int).toNat) ∧ le ≤ (if le + dv < 10 ^ (12 : Int).toNat then le + dv else 10 ^ (12 : Int).toNat) := by
          have e12 : (10 : Int) ^ (12 : Int).toNat = 1000000000000 := by decide
          rw [e12]
          obtain ⟨a1, a2⟩ := gle
          refine ⟨⟨?_, ?_⟩, ?_⟩ <;> (split <;> omega)
        generalize (if le + dv < 10 ^ (12 : Int).toNat then le + dv else 10 ^ (12 : Int).toNat) = mo at fmo ⊢
        obtain ⟨gmo, hlm⟩ := fmo
        refine ⟨_, rfl, _, rfl, line2, fun tp htp => ?_⟩
        have M4 := M3.new F (o := .tup [.int le, .int mo]) htp
        refine ⟨tp, _, rfl, SqT.of upd_same, rfl, _, _, rfl, _, rfl, m, _, rfl, dgv M4.em F.v1, _, rfl, dl, _, rfl, dput_new M4.el hnew few, _, _, rfl, _, rfl, m, _, rfl, dgv ((upd_ne F.m1).trans M4.em) F.v2, _, rfl, dh, _, rfl, dput_new ((upd_ne (Ne.symm F.d1)).trans M4.eh) hnew few, rfl, ?_⟩
        have M5 := M4.low F (n := nm) hnew (l := le) (h := mo)
        have rng' : ∀ x ∈ ns.take (i + 1), GoodH (if x = nm then le else los x) ∧ GoodH (if x = nm then mo else his x) ∧ (if x = nm then le else los x) ≤ (if x = nm then mo else his x) := fun x hx => by
          by_cases c : x = nm
          · rw [if_pos c, if_pos c]; exact ⟨gle, gmo, hlm⟩
          · rw [if_neg c, if_neg c]
            rw [take_next hnm] at hx
            rcases List.mem_append.mp hx with z | z
            · exact rng x z
            · exact absurd (List.mem_singleton.mp z) c
        rw [← take_next hnm] at M5 ⊢
        refine ⟨_, rfl, _, _, rfl, rfl, _, rfl, _, rfl, 1, (i : Int), rfl, b, _, _, rfl, M5.bx, by omega, by split <;> omega, by split <;> omega, fun He x1 se be x10 x11 => ⟨_, rfl, _, rfl, 2, (i : Int), rfl, rfl, .inl (by decide), _, _, rfl, rfl, b, _, _, rfl, be, by omega, by omega, by omega, fun Hf x2 sf bf x20 x21 => ⟨_, rfl, (by show (5 : Nat) ≤ sizeLine; exact line8 (by decide)), fun pf hpf => ?_⟩⟩⟩
        have M6 := ((M5.box F se be).box F sf bf).new F (o := .lst [.int ((i : Int) - 1), .int x1, .int 0, .int x2, .int (i : Int)]) hpf
        obtain ⟨fa, hfa⟩ : ∃ fa : Int, ([V.int ((i : Int) - 1), .int x1, .int 0, .int x2, .int (i : Int)] : List V)[sj]? = some (.int fa) := by
          match sj, hsj with
          | 0, _ => exact ⟨_, rfl⟩
          | 1, _ => exact ⟨_, rfl⟩
          | 2, _ => exact ⟨_, rfl⟩
          | 3, _ => exact ⟨_, rfl⟩
          | 4, _ => exact ⟨_, rfl⟩
        refine ⟨_, rfl, pf, _, (sj : Int), _, rfl, rfl, SqL.of upd_same, atI_nat hfa, ?_⟩
        refine ⟨_, rfl, _, _, rfl, rfl, _, rfl, ?_⟩
        refine ite2 (fun f0 => ⟨_, rfl, _, _, rfl, rfl, _, rfl, ite2 (fun f1 => ?_) (fun f1 => ?_)⟩) (fun f0 => ⟨_, rfl, ?_⟩)
        · rw [decide_eq_true_eq] at f0 f1
          obtain ⟨fj, rfl⟩ : ∃ j : Nat, fa = j := ⟨fa.toNat, by omega⟩
          have hfj : fj < i := by omega
          obtain ⟨xn, hxn⟩ : ∃ xn, ns[fj]? = some xn := ⟨_, List.getElem?_eq_getElem (by omega)⟩
          obtain ⟨xs, elt, xl⟩ := M6.et.ls
          refine ⟨_, rfl, m, _, rfl, dgv M6.em F.v3, .inl ⟨rfl, _, SqL.of elt⟩, _, rfl, _, rfl, nl, _, (fj : Int), .str xn, rfl, rfl, SqL.of M6.en, atI_nat (by rw [List.getElem?_map, hxn]; rfl), _, rfl, line2, fun tq htq => ⟨lt, xs, _, rfl, rfl, ext_new htq _ _ elt, by rw [xl]; exact line8' (by omega), ?_⟩⟩
          have M7 := M6.tie F elt htq (xn, nm)
          have tin' : ∀ p ∈ ts ++ [(xn, nm)], p.1 ∈ ns ∧ p.2 ∈ ns ∧ p.1 ≠ p.2 := fun p hp => by
            rcases List.mem_append.mp hp with z | z
            · exact tin p z
            · rw [List.mem_singleton.mp z]
              exact ⟨List.mem_of_getElem? hxn, hnn, fun e => hnew (by rw [← (show xn = nm from e)]; exact List.mem_of_getElem? (i := fj) (by rw [List.getElem?_take, if_pos hfj]; exact hxn))⟩
          have tlen' : (ts ++ [(xn, nm)]).length ≤ i + 1 := by rw [List.length_append, List.length_singleton]; omega
          refine ⟨_, rfl, rfl, _, rfl, ?_⟩
          refine ite2 (fun c1 => ?_) (fun c1 => ?_)
          · refine ⟨_, rfl, b, 5, _, rfl, M7.bx, by omega, by decide, by decide, fun Hh x3 s8 b8 x30 x31 => ⟨rfl, _, rfl, ?_⟩⟩
            have M8 := M7.box F s8 b8
            refine ite2 (fun c2 => ?_) (fun c2 => ?_)
            · exact ⟨_, rfl, m, _, rfl, dgv M8.em F.v4, .inl ⟨rfl, _, SqL.of M8.eo⟩, _, rfl, lo, _, _, rfl, rfl, M8.eo, by rw [List.length_map]; exact line8' (by omega), ⟨_, _, _, _, _, _, _, _, _, _, _, rfl, (M8.out F nm).mono (by omega), rng', tin', tlen', ond', oin'⟩⟩
            · refine ⟨_, rfl, rfl, _, rfl, ite2 (fun c3 => ⟨_, rfl, rfl, _, rfl, ite2 (fun c4 => ?_) (fun c4 => ?_)⟩) (fun c3 => ?_)⟩
              · exact ⟨_, rfl, m, _, rfl, dgv M8.em F.v4, .inl ⟨rfl, _, SqL.of M8.eo⟩, _, rfl, lo, _, _, rfl, rfl, M8.eo, by rw [List.length_map]; exact line8' (by omega), ⟨_, _, _, _, _, _, _, _, _, _, _, rfl, (M8.out F nm).mono (by omega), rng', tin', tlen', ond', oin'⟩⟩
              · exact ⟨_, _, _, _, _, _, _, _, _, _, _, rfl, M8.mono (by omega), rng', tin', tlen', ond, fun x h => oin2 x (oin x h)⟩
              · exact ⟨_, _, _, _, _, _, _, _, _, _, _, rfl, M8.mono (by omega), rng', tin', tlen', ond, fun x h => oin2 x (oin x h)⟩
          · refine ⟨_, rfl, rfl, _, rfl, ite2 (fun c3 => ⟨_, rfl, rfl, _, rfl, ite2 (fun c4 => ?_) (fun c4 => ?_)⟩) (fun c3 => ?_)⟩
            · exact ⟨_, rfl, m, _, rfl, dgv M7.em F.v4, .inl ⟨rfl, _, SqL.of M7.eo⟩, _, rfl, lo, _, _, rfl, rfl, M7.eo, by rw [List.length_map]; exact line8' (by omega), ⟨_, _, _, _, _, _, _, _, _, _, _, rfl, (M7.out F nm).mono (by omega), rng', tin', tlen', ond', oin'⟩⟩
            · exact ⟨_, _, _, _, _, _, _, _, _, _, _, rfl, M7.mono (by omega), rng', tin', tlen', ond, fun x h => oin2 x (oin x h)⟩
            · exact ⟨_, _, _, _, _, _, _, _, _, _, _, rfl, M7.mono (by omega), rng', tin', tlen', ond, fun x h => oin2 x (oin x h)⟩
        · have M7 := M6
          have tin' := tin
          have tlen' : ts.length ≤ i + 1 := by omega
          refine ⟨_, rfl, rfl, _, rfl, ?_⟩
          refine ite2 (fun c1 => ?_) (fun c1 => ?_)
          · refine ⟨_, rfl, b, 5, _, rfl, M7.bx, by omega, by decide, by decide, fun Hh x3 s8 b8 x30 x31 => ⟨rfl, _, rfl, ?_⟩⟩
            have M8 := M7.box F s8 b8
            refine ite2 (fun c2 => ?_) (fun c2 => ?_)
            · exact ⟨_, rfl, m, _, rfl, dgv M8.em F.v4, .inl ⟨rfl, _, SqL.of M8.eo⟩, _, rfl, lo, _, _, rfl, rfl, M8.eo, by rw [List.length_map]; exact line8' (by omega), ⟨_, _, _, _, _, _, _, _, _, _, _, rfl, (M8.out F nm).mono (by omega), rng', tin', tlen', ond', oin'⟩⟩
            · refine ⟨_, rfl, rfl, _, rfl, ite2 (fun c3 => ⟨_, rfl, rfl, _, rfl, ite2 (fun c4 => ?_) (fun c4 => ?_)⟩) (fun c3 => ?_)⟩
              · exact ⟨_, rfl, m, _, rfl, dgv M8.em F.v4, .inl ⟨rfl, _, SqL.of M8.eo⟩, _, rfl, lo, _, _, rfl, rfl, M8.eo, by rw [List.length_map]; exact line8' (by omega), ⟨_, _, _, _, _, _, _, _, _, _, _, rfl, (M8.out F nm).mono (by omega), rng', tin', tlen', ond', oin'⟩⟩
              · exact ⟨_, _, _, _, _, _, _, _, _, _, _, rfl, M8.mono (by omega), rng', tin', tlen', ond, fun x h => oin2 x (oin x h)⟩
              · exact ⟨_, _, _, _, _, _, _, _, _, _, _, rfl, M8.mono (by omega), rng', tin', tlen', ond, fun x h => oin2 x (oin x h)⟩
          · refine ⟨_, rfl, rfl, _, rfl, ite2 (fun c3 => ⟨_, rfl, rfl, _, rfl, ite2 (fun c4 => ?_) (fun c4 => ?_)⟩) (fun c3 => ?_)⟩
            · exact ⟨_, rfl, m, _, rfl, dgv M7.em F.v4, .inl ⟨rfl, _, SqL.of M7.eo⟩, _, rfl, lo, _, _, rfl, rfl, M7.eo, by rw [List.length_map]; exact line8' (by omega), ⟨_, _, _, _, _, _, _, _, _, _, _, rfl, (M7.out F nm).mono (by omega), rng', tin', tlen', ond', oin'⟩⟩
            · exact ⟨_, _, _, _, _, _, _, _, _, _, _, rfl, M7.mono (by omega), rng', tin', tlen', ond, fun x h => oin2 x (oin x h)⟩
            · exact ⟨_, _, _, _, _, _, _, _, _, _, _, rfl, M7.mono (by omega), rng', tin', tlen', ond, fun x h => oin2 x (oin x h)⟩
        · have M7 := M6
          have tin' := tin
          have tlen' : ts.length ≤ i + 1 := by omega
          refine ⟨_, rfl, rfl, _, rfl, ?_⟩
          refine ite2 (fun c1 => ?_) (fun c1 => ?_)
          · refine ⟨_, rfl, b, 5, _, rfl, M7.bx, by omega, by decide, by decide, fun Hh x3 s8 b8 x30 x31 => ⟨rfl, _, rfl, ?_⟩⟩
            have M8 := M7.box F s8 b8
            refine ite2 (fun c2 => ?_) (fun c2 => ?_)
            · exact ⟨_, rfl, m, _, rfl, dgv M8.em F.v4, .inl ⟨rfl, _, SqL.of M8.eo⟩, _, rfl, lo, _, _, rfl, rfl, M8.eo, by rw [List.length_map]; exact line8' (by omega), ⟨_, _, _, _, _, _, _, _, _, _, _, rfl, (M8.out F nm).mono (by omega), rng', tin', tlen', ond', oin'⟩⟩
            · refine ⟨_, rfl, rfl, _, rfl, ite2 (fun c3 => ⟨_, rfl, rfl, _, rfl, ite2 (fun c4 => ?_) (fun c4 => ?_)⟩) (fun c3 => ?_)⟩
              · exact ⟨_, rfl, m, _, rfl, dgv M8.em F.v4, .inl ⟨rfl, _, SqL.of M8.eo⟩, _, rfl, lo, _, _, rfl, rfl, M8.eo, by rw [List.length_map]; exact line8' (by omega), ⟨_, _, _, _, _, _, _, _, _, _, _, rfl, (M8.out F nm).mono (by omega), rng', tin', tlen', ond', oin'⟩⟩
              · exact ⟨_, _, _, _, _, _, _, _, _, _, _, rfl, M8.mono (by omega), rng', tin', tlen', ond, fun x h => oin2 x (oin x h)⟩
              · exact ⟨_, _, _, _, _, _, _, _, _, _, _, rfl, M8.mono (by omega), rng', tin', tlen', ond, fun x h => oin2 x (oin x h)⟩
          · refine ⟨_, rfl, rfl, _, rfl, ite2 (fun c3 => ⟨_, rfl, rfl, _, rfl, ite2 (fun c4 => ?_) (fun c4 => ?_)⟩) (fun c3 => ?_)⟩
            · exact ⟨_, rfl, m, _, rfl, dgv M7.em F.v4, .inl ⟨rfl, _, SqL.of M7.eo⟩, _, rfl, lo, _, _, rfl, rfl, M7.eo, by rw [List.length_map]; exact line8' (by omega), ⟨_, _, _, _, _, _, _, _, _, _, _, rfl, (M7.out F nm).mono (by omega), rng', tin', tlen', ond', oin'⟩⟩
            · exact ⟨_, _, _, _, _, _, _, _, _, _, _, rfl, M7.mono (by omega), rng', tin', tlen', ond, fun x h => oin2 x (oin x h)⟩
            · exact ⟨_, _, _, _, _, _, _, _, _, _, _, rfl, M7.mono (by omega), rng', tin', tlen', ond, fun x h => oin2 x (oin x h)⟩
      · have M3 := M2
        refine ⟨_, rfl, _, rfl, line2, fun tp htp => ?_⟩
        have M4 := M3.new F (o := .tup [.int le, .int mo]) htp
        refine ⟨tp, _, rfl, SqT.of upd_same, rfl, _, _, rfl, _, rfl, m, _, rfl, dgv M4.em F.v1, _, rfl, dl, _, rfl, dput_new M4.el hnew few, _, _, rfl, _, rfl, m, _, rfl, dgv ((upd_ne F.m1).trans M4.em) F.v2, _, rfl, dh, _, rfl, dput_new ((upd_ne (Ne.symm F.d1)).trans M4.eh) hnew few, rfl, ?_⟩
        have M5 := M4.low F (n := nm) hnew (l := le) (h := mo)
        have rng' : ∀ x ∈ ns.take (i + 1), GoodH (if x = nm then le else los x) ∧ GoodH (if x = nm then mo else his x) ∧ (if x = nm then le else los x) ≤ (if x = nm then mo else his x) := fun x hx => by
          by_cases c : x = nm
          · rw [if_pos c, if_pos c]; exact ⟨gle, gmo, hlm⟩
          · rw [if_neg c, if_neg c]
            rw [take_next hnm] at hx
            rcases List.mem_append.mp hx with z | z
            · exact rng x z
            · exact absurd (List.mem_singleton.mp z) c
        rw [← take_next hnm] at M5 ⊢
        refine ⟨_, rfl, _, _, rfl, rfl, _, rfl, _, rfl, 1, (i : Int), rfl, b, _, _, rfl, M5.bx, by omega, by split <;> omega, by split <;> omega, fun He x1 se be x10 x11 => ⟨_, rfl, _, rfl, 2, (i : Int), rfl, rfl, .inl (by decide), _, _, rfl, rfl, b, _, _, rfl, be, by omega, by omega, by omega, fun Hf x2 sf bf x20 x21 => ⟨_, rfl, (by show (5 : Nat) ≤ sizeLine; exact line8 (by decide)), fun pf hpf => ?_⟩⟩⟩
        have M6 := ((M5.box F se be).box F sf bf).new F (o := .lst [.int ((i : Int) - 1), .int x1, .int 0, .int x2, .int (i : Int)]) hpf
        obtain ⟨fa, hfa⟩ : ∃ fa : Int, ([V.int ((i : Int) - 1), .int x1, .int 0, .int x2, .int (i : Int)] : List V)[sj]? = some (.int fa) := by
          match sj, hsj with
          | 0, _ => exact ⟨_, rfl⟩
          | 1, _ => exact ⟨_, rfl⟩
          | 2, _ => exact ⟨_, rfl⟩
          | 3, _ => exact ⟨_, rfl⟩
          | 4, _ => exact ⟨_, rfl⟩
        refine ⟨_, rfl, pf, _, (sj : Int), _, rfl, rfl, SqL.of upd_same, atI_nat hfa, ?_⟩
        refine ⟨_, rfl, _, _, rfl, rfl, _, rfl, ?_⟩
        refine ite2 (fun f0 => ⟨_, rfl, _, _, rfl, rfl, _, rfl, ite2 (fun f1 => ?_) (fun f1 => ?_)⟩) (fun f0 => ⟨_, rfl, ?_⟩)
        · rw [decide_eq_true_eq] at f0 f1
          obtain ⟨fj, rfl⟩ : ∃ j : Nat, fa = j := ⟨fa.toNat, by omega⟩
          have hfj : fj < i := by omega
          obtain ⟨xn, hxn⟩ : ∃ xn, ns[fj]? = some xn := ⟨_, List.getElem?_eq_getElem (by omega)⟩
          obtain ⟨xs, elt, xl⟩ := M6.et.ls
          refine ⟨_, rfl, m, _, rfl, dgv M6.em F.v3, .inl ⟨rfl, _, SqL.of elt⟩, _, rfl, _, rfl, nl, _, (fj : Int), .str xn, rfl, rfl, SqL.of M6.en, atI_nat (by rw [List.getElem?_map, hxn]; rfl), _, rfl, line2, fun tq htq => ⟨lt, xs, _, rfl, rfl, ext_new htq _ _ elt, by rw [xl]; exact line8' (by omega), ?_⟩⟩
          have M7 := M6.tie F elt htq (xn, nm)
          have tin' : ∀ p ∈ ts ++ [(xn, nm)], p.1 ∈ ns ∧ p.2 ∈ ns ∧ p.1 ≠ p.2 := fun p hp => by
            rcases List.mem_append.mp hp with z | z
            · exact tin p z
            · rw [List.mem_singleton.mp z]
              exact ⟨List.mem_of_getElem? hxn, hnn, fun e => hnew (by rw [← (show xn = nm from e)]; exact List.mem_of_getElem? (i := fj) (by rw [List.getElem?_take, if_pos hfj]; exact hxn))⟩
          have tlen' : (ts ++ [(xn, nm)]).length ≤ i + 1 := by rw [List.length_append, List.length_singleton]; omega
          refine ⟨_, rfl, rfl, _, rfl, ?_⟩
          refine ite2 (fun c1 => ?_) (fun c1 => ?_)
          · refine ⟨_, rfl, b, 5, _, rfl, M7.bx, by omega, by decide, by decide, fun Hh x3 s8 b8 x30 x31 => ⟨rfl, _, rfl, ?_⟩⟩
            have M8 := M7.box F s8 b8
            refine ite2 (fun c2 => ?_) (fun c2 => ?_)
            · exact ⟨_, rfl, m, _, rfl, dgv M8.em F.v4, .inl ⟨rfl, _, SqL.of M8.eo⟩, _, rfl, lo, _, _, rfl, rfl, M8.eo, by rw [List.length_map]; exact line8' (by omega), ⟨_, _, _, _, _, _, _, _, _, _, _, rfl, (M8.out F nm).mono (by omega), rng', tin', tlen', ond', oin'⟩⟩
            · refine ⟨_, rfl, rfl, _, rfl, ite2 (fun c3 => ⟨_, rfl, rfl, _, rfl, ite2 (fun c4 => ?_) (fun c4 => ?_)⟩) (fun c3 => ?_)⟩
              · exact ⟨_, rfl, m, _, rfl, dgv M8.em F.v4, .inl ⟨rfl, _, SqL.of M8.eo⟩, _, rfl, lo, _, _, rfl, rfl, M8.eo, by rw [List.length_map]; exact line8' (by omega), ⟨_, _, _, _, _, _, _, _, _, _, _, rfl, (M8.out F nm).mono (by omega), rng', tin', tlen', ond', oin'⟩⟩
              · exact ⟨_, _, _, _, _, _, _, _, _, _, _, rfl, M8.mono (by omega), rng', tin', tlen', ond, fun x h => oin2 x (oin x h)⟩
              · exact ⟨_, _, _, _, _, _, _, _, _, _, _, rfl, M8.mono (by omega), rng', tin', tlen', ond, fun x h => oin2 x (oin x h)⟩
          · refine ⟨_, rfl, rfl, _, rfl, ite2 (fun c3 => ⟨_, rfl, rfl, _, rfl, ite2 (fun c4 => ?_) (fun c4 => ?_)⟩) (fun c3 => ?_)⟩
            · exact ⟨_, rfl, m, _, rfl, dgv M7.em F.v4, .inl ⟨rfl, _, SqL.of M7.eo⟩, _, rfl, lo, _, _, rfl, rfl, M7.eo, by rw [List.length_map]; exact line8' (by omega), ⟨_, _, _, _, _, _, _, _, _, _, _, rfl, (M7.out F nm).mono (by omega), rng', tin', tlen', ond', oin'⟩⟩
            · exact ⟨_, _, _, _, _, _, _, _, _, _, _, rfl, M7.mono (by omega), rng', tin', tlen', ond, fun x h => oin2 x (oin x h)⟩
            · exact ⟨_, _, _, _, _, _, _, _, _, _, _, rfl, M7.mono (by omega), rng', tin', tlen', ond, fun x h => oin2 x (oin x h)⟩
        · have M7 := M6
          have tin' := tin
          have tlen' : ts.length ≤ i + 1 := by omega
          refine ⟨_, rfl, rfl, _, rfl, ?_⟩
          refine ite2 (fun c1 => ?_) (fun c1 => ?_)
          · refine ⟨_, rfl, b, 5, _, rfl, M7.bx, by omega, by decide, by decide, fun Hh x3 s8 b8 x30 x31 => ⟨rfl, _, rfl, ?_⟩⟩
            have M8 := M7.box F s8 b8
            refine ite2 (fun c2 => ?_) (fun c2 => ?_)
            · exact ⟨_, rfl, m, _, rfl, dgv M8.em F.v4, .inl ⟨rfl, _, SqL.of M8.eo⟩, _, rfl, lo, _, _, rfl, rfl, M8.eo, by rw [List.length_map]; exact line8' (by omega), ⟨_, _, _, _, _, _, _, _, _, _, _, rfl, (M8.out F nm).mono (by omega), rng', tin', tlen', ond', oin'⟩⟩
            · refine ⟨_, rfl, rfl, _, rfl, ite2 (fun c3 => ⟨_, rfl, rfl, _, rfl, ite2 (fun c4 => ?_) (fun c4 => ?_)⟩) (fun c3 => ?_)⟩
              · exact ⟨_, rfl, m, _, rfl, dgv M8.em F.v4, .inl ⟨rfl, _, SqL.of M8.eo⟩, _, rfl, lo, _, _, rfl, rfl, M8.eo, by rw [List.length_map]; exact line8' (by omega), ⟨_, _, _, _, _, _, _, _, _, _, _, rfl, (M8.out F nm).mono (by omega), rng', tin', tlen', ond', oin'⟩⟩
              · exact ⟨_, _, _, _, _, _, _, _, _, _, _, rfl, M8.mono (by omega), rng', tin', tlen', ond, fun x h => oin2 x (oin x h)⟩
              · exact ⟨_, _, _, _, _, _, _, _, _, _, _, rfl, M8.mono (by omega), rng', tin', tlen', ond, fun x h => oin2 x (oin x h)⟩
          · refine ⟨_, rfl, rfl, _, rfl, ite2 (fun c3 => ⟨_, rfl, rfl, _, rfl, ite2 (fun c4 => ?_) (fun c4 => ?_)⟩) (fun c3 => ?_)⟩
            · exact ⟨_, rfl, m, _, rfl, dgv M7.em F.v4, .inl ⟨rfl, _, SqL.of M7.eo⟩, _, rfl, lo, _, _, rfl, rfl, M7.eo, by rw [List.length_map]; exact line8' (by omega), ⟨_, _, _, _, _, _, _, _, _, _, _, rfl, (M7.out F nm).mono (by omega), rng', tin', tlen', ond', oin'⟩⟩
            · exact ⟨_, _, _, _, _, _, _, _, _, _, _, rfl, M7.mono (by omega), rng', tin', tlen', ond, fun x h => oin2 x (oin x h)⟩
            · exact ⟨_, _, _, _, _, _, _, _, _, _, _, rfl, M7.mono (by omega), rng', tin', tlen', ond, fun x h => oin2 x (oin x h)⟩
        · have M7 := M6
          have tin' := tin
          have tlen' : ts.length ≤ i + 1 := by omega
          refine ⟨_, rfl, rfl, _, rfl, ?_⟩
          refine ite2 (fun c1 => ?_) (fun c1 => ?_)
          · refine ⟨_, rfl, b, 5, _, rfl, M7.bx, by omega, by decide, by decide, fun Hh x3 s8 b8 x30 x31 => ⟨rfl, _, rfl, ?_⟩⟩
            have M8 := M7.box F s8 b8
            refine ite2 (fun c2 => ?_) (fun c2 => ?_)
            · exact ⟨_, rfl, m, _, rfl, dgv M8.em F.v4, .inl ⟨rfl, _, SqL.of M8.eo⟩, _, rfl, lo, _, _, rfl, rfl, M8.eo, by rw [List.length_map]; exact line8' (by omega), ⟨_, _, _, _, _, _, _, _, _, _, _, rfl, (M8.out F nm).mono (by omega), rng', tin', tlen', ond', oin'⟩⟩
            · refine ⟨_, rfl, rfl, _, rfl, ite2 (fun c3 => ⟨_, rfl, rfl, _, rfl, ite2 (fun c4 => ?_) (fun c4 => ?_)⟩) (fun c3 => ?_)⟩
              · exact ⟨_, rfl, m, _, rfl, dgv M8.em F.v4, .inl ⟨rfl, _, SqL.of M8.eo⟩, _, rfl, lo, _, _, rfl, rfl, M8.eo, by rw [List.length_map]; exact line8' (by omega), ⟨_, _, _, _, _, _, _, _, _, _, _, rfl, (M8.out F nm).mono (by omega), rng', tin', tlen', ond', oin'⟩⟩
              · exact ⟨_, _, _, _, _, _, _, _, _, _, _, rfl, M8.mono (by omega), rng', tin', tlen', ond, fun x h => oin2 x (oin x h)⟩
              · exact ⟨_, _, _, _, _, _, _, _, _, _, _, rfl, M8.mono (by omega), rng', tin', tlen', ond, fun x h => oin2 x (oin x h)⟩
          · refine ⟨_, rfl, rfl, _, rfl, ite2 (fun c3 => ⟨_, rfl, rfl, _, rfl, ite2 (fun c4 => ?_) (fun c4 => ?_)⟩) (fun c3 => ?_)⟩
            · exact ⟨_, rfl, m, _, rfl, dgv M7.em F.v4, .inl ⟨rfl, _, SqL.of M7.eo⟩, _, rfl, lo, _, _, rfl, rfl, M7.eo, by rw [List.length_map]; exact line8' (by omega), ⟨_, _, _, _, _, _, _, _, _, _, _, rfl, (M7.out F nm).mono (by omega), rng', tin', tlen', ond', oin'⟩⟩
            · exact ⟨_, _, _, _, _, _, _, _, _, _, _, rfl, M7.mono (by omega), rng', tin', tlen', ond, fun x h => oin2 x (oin x h)⟩
            · exact ⟨_, _, _, _, _, _, _, _, _, _, _, rfl, M7.mono (by omega), rng', tin', tlen', ond, fun x h => oin2 x (oin x h)⟩
    · obtain ⟨o1, o9, o10, o11, o12, o13, o14, los, his, ts, os, rfl, M, rng, tin, tlen, ond, oin⟩ := h
      rw [List.take_length] at M rng oin
      have oasc : ∀ x ∈ ns, Ascii x := fun x hx => (nok x hx).1.ascii
      refine ⟨_, rfl, b, 4, _, rfl, M.bx, by omega, by decide, by decide, fun H9 lp s9 b9 lp0 lp1 => ⟨lp, rfl, by omega, by omega, ?_⟩⟩
      have M9 := M.box F s9 b9
      refine for_it walk_range (fun i σ H' => ∃ (o15 o16 o17 : Option V) (ts : List Pr), σ = [some (.ref b), o1, some (.int (1 + d1)), some (.ref nl), some (.int wy), some (.int sh), some (.ref m), some (.int dr), some (.int wi), o9, o10, o11, o12, o13, o14, o15, o16, o17] ∧
        MS H H' b m dl dh lt lo nl kvs ns ns los his ts os (k + 30 + 20 * ns.length + 10 * i) ∧ (∀ p ∈ ts, p.1 ∈ ns ∧ p.2 ∈ ns ∧ p.1 ≠ p.2) ∧ ts.length ≤ 8 + i)
        ⟨_, _, _, _, rfl, M9.mono (by omega), tin, by omega⟩ (fun _ _ _ _ _ => trivial) (fun i x σ H8 H9 hi h hy => ?_) (fun σ H8 h => ?_)
      · obtain ⟨o15, o16, o17, ts, rfl, M, tin, tlen⟩ := h
        obtain ⟨rfl, rfl⟩ := hy
        refine ⟨_, rfl, _, rfl, _, rfl, b, (1 + d1), _, rfl, M.bx, by omega, by omega, by omega, fun Ha x1 sa ba x10 x11 => ?_⟩
        have Ma := M.box F sa ba
        obtain ⟨j1, rfl⟩ : ∃ j : Nat, x1 = j := ⟨x1.toNat, by omega⟩
        obtain ⟨na, hna⟩ : ∃ x, ns[j1]? = some x := ⟨_, List.getElem?_eq_getElem (by omega)⟩
        refine ⟨nl, _, (j1 : Int), .str na, rfl, rfl, SqL.of Ma.en, atI_nat (by rw [List.getElem?_map, hna]; rfl), ?_⟩
        refine ⟨_, rfl, _, rfl, _, rfl, b, (1 + d1), _, rfl, Ma.bx, by omega, by omega, by omega, fun Hb x2 sb bb x20 x21 => ?_⟩
        have Mb := Ma.box F sb bb
        obtain ⟨j2, rfl⟩ : ∃ j : Nat, x2 = j := ⟨x2.toNat, by omega⟩
        obtain ⟨nb', hnb⟩ : ∃ x, ns[j2]? = some x := ⟨_, List.getElem?_eq_getElem (by omega)⟩
        refine ⟨nl, _, (j2 : Int), .str nb', rfl, rfl, SqL.of Mb.en, atI_nat (by rw [List.getElem?_map, hnb]; rfl), _, _, rfl, ?_⟩
        have ma := List.mem_of_getElem? hna
        have mb := List.mem_of_getElem? hnb
        have tasc : ∀ p ∈ ts, Ascii p.1 ∧ Ascii p.2 := fun p hp => ⟨oasc _ (tin p hp).1, oasc _ (tin p hp).2.1⟩
        have shp : ∀ p : Pr, p.1 ∈ ns → p.2 ∈ ns → SeqAt.shaped (dPr p) = true := fun p h1 h2 => by
          unfold SeqAt.shaped
          rw [canLay_dPr ⟨oasc _ h1, oasc _ h2⟩, PyData.depth, PyData.depthAll, PyData.depthAll, PyData.depthAll, PyData.depth, PyData.depth]; rfl
        refine ⟨_, rfl, _, rfl, rfl, _, rfl, ?_⟩
        refine ite2 (fun e0 => ?_) (fun e0 => ⟨_, _, _, ts, rfl, Mb.mono (by omega), tin, by omega⟩)
        refine ⟨_, rfl, _, rfl, line2, fun tp htp => ⟨_, rfl, m, _, rfl, dgv (ext_new htp _ _ Mb.em) F.v3, dPr (na, nb'), ts.map dPr, .tup (SqT.of upd_same) (.cons (.str _) (.cons (.str _) .nil)), dp_pairs ((Mb.new F htp).et), shp _ ma mb, shaped_dP tasc, _, rfl, ?_⟩⟩
        have Mc := Mb.new F (o := .tup [.str na, .str nb']) htp
        refine ite2 (fun e1 => ?_) (fun e1 => ⟨_, _, _, ts, rfl, Mc.mono (by omega), tin, by omega⟩)
        refine ⟨_, rfl, _, rfl, line2, fun tr htr => ⟨_, rfl, m, _, rfl, dgv (ext_new htr _ _ Mc.em) F.v3, dPr (nb', na), ts.map dPr, .tup (SqT.of upd_same) (.cons (.str _) (.cons (.str _) .nil)), dp_pairs ((Mc.new F htr).et), shp _ mb ma, shaped_dP tasc, _, rfl, ?_⟩⟩
        have Me := Mc.new F (o := .tup [.str nb', .str na]) htr
        refine ite2 (fun e2 => ?_) (fun e2 => ⟨_, _, _, ts, rfl, Me.mono (by omega), tin, by omega⟩)
        obtain ⟨xs, elt, xl⟩ := Me.et.ls
        refine ⟨_, rfl, m, _, rfl, dgv Me.em F.v3, .inl ⟨rfl, _, SqL.of elt⟩, _, rfl, _, rfl, line2, fun tq htq => ⟨lt, xs, _, rfl, rfl, ext_new htq _ _ elt, by rw [xl]; exact line8' (by have : i < 4 := (by omega); omega), ?_⟩⟩
        refine ⟨_, _, _, ts ++ [(na, nb')], rfl, (Me.tie F elt htq (na, nb')).mono (by omega), fun p hp => ?_, by rw [List.length_append, List.length_singleton]; omega⟩
        rcases List.mem_append.mp hp with z | z
        · exact tin p z
        · rw [List.mem_singleton.mp z]
          refine ⟨ma, mb, fun e => ?_⟩
          have e : na = nb' := e
          rw [e, decide_eq_true rfl] at e0
          cases e0
      · obtain ⟨o15, o16, o17, ts, rfl, M, tin, tlen⟩ := h
        refine ⟨_, rfl, q H8 m ⟨ns, los, his, ts, os⟩ kvs dl dh lt lo M.st (M.bx.mono (by omega)) ⟨M.em, (by rw [F.k4]; decide), F.v1, F.v2, F.v3, F.v4, M.el, M.eh, M.et, M.eo⟩ F.b1 F.b2 ⟨nnd, (by show 1 ≤ ns.length; omega), (by show ns.length ≤ 8; omega), nok, rng, tin, by show ts.length ≤ 40; omega, ond, oin⟩ F.fm⟩
end
end SH
/-! W25 -/
set_option Elab.async false
set_option linter.all false
set_option maxRecDepth 100000
set_option maxHeartbeats 2000000
namespace SH
open PySem PySem.Spec PyProof.Rows L2 LamX
theorem rep_one {x : V} (b : Bool) : (List.replicate (if b then (1 : Int) else 0).toNat [x]).flatten = if b then [x] else [] := by cases b <;> rfl
section
variable {P : Program} {w : World} {K : Frg} {mg : Str → Option Value} {base : Heap}
abbrev nDr : List Str := ["_law_box_here", "_law_model_here", "_law_some", "_law_name"]
def spDr : Sp := fun vs H Q _ => ∃ (b m : Addr) (k : Nat) (M : Md) (kvs : List (Key × V)) (dl dh lt lo : Addr), vs = [.ref b, .ref m] ∧ BoxAt H b k ∧ k ≤ 600000 ∧ MdW H m M kvs dl dh lt lo ∧ b ≠ lt ∧ b ≠ lo ∧ M.Ok ∧
  ∀ (H' : Hp) (M' : Md), (∀ x o, x ≠ b → x ≠ m → H x = some o → H' x = some o) → BoxAt H' b (k + 100) → MdAt H' m M' → M'.Ok → Q (.ref m) H'
theorem sc_Dr : FnScope nDr ["_law_box_here", "_law_model_here"] (defScope s_law_drained) := sc_of
theorem c_drained (t : T K mg) : Cal P w K mg base 2 "_law_drained" spDr [] := by
  refine cal_of t.d_law_drained sc_Dr (fun _ _ _ _ _ _ us hl => match us, hl with | [_, _], _ => rfl) (fun vs H Q E h => ?_) (fun f cdv A outer s H vs Q E hr h => ?_)
  · obtain ⟨a, _, _, _, _, _, _, _, _, rfl, _⟩ := h
    rfl
  · obtain ⟨b, m, k, M, kvs, dl, dh, lt, lo, rfl, hb, hk, hMW, b1, b2, ok, q⟩ := h
    obtain ⟨em, k4, v1, v2, v3, v4, el, eh, et, eo⟩ := id hMW
    have nd := sc_Dr.nd
    have hu := hu_of hr
    have h64 := hr.units
    refine ⟨_, pss_cons (slc1t 2 3 rfl nd (pi_list (cb (call_sortedD rfl) t.n_sorted (pa_cons (pe_dget hu (pv 1) pe_str (fun _ _ => rfl)) pa_nil))) (fun _ _ _ _ _ => pts_one (pt_cmpR op_eq (pe_c (c_take t) hr (by decide) (pa_cons (pv 0) (pa_cons pe_int pa_nil))) pe_int (nomark _))) (fun _ _ _ _ _ => pv 3) (bk nDr s_law_drained))
      (pss_cons (ps_if (PW.pt (pw_and (pt_cmpR (op_eqD h64) (pe_dget hu (pv 1) pe_str (fun _ _ => rfl)) (pe_lst pa_nil) (nomark _)) (pw_and1 (pt_cmpR op_gt (pe_c (c_take t) hr (by decide) (pa_cons (pv 0) (pa_cons pe_int pa_nil))) pe_int (nomark _)))))
        (pss_one (ps_dput hu (pv 1) pe_str (pe_op op_cat (pv 2) (pe_op op_rep (pe_lst (pa_cons (pe_ix ix_list (cb (call_sortedD rfl) t.n_sorted (pa_cons (pe_dget hu (pv 1) pe_str (fun _ _ => rfl)) pa_nil)) (pe_c (c_take t) hr (by decide) (pa_cons (pv 0) (pa_cons (cb call_lenD t.n_len (pa_cons (pe_dget hu (pv 1) pe_str (fun _ _ => rfl)) pa_nil)) pa_nil))) (fun _ _ => rfl)) pa_nil))
          (ct call_int1 t.n_int (pa_cons (pe_cmpR (op_eqD h64) (pv 2) (pe_lst pa_nil) (nomark _)) pa_nil)))) rfl)) pss_nil)
      (pss_one (ps_ret (pv 1)))), ?_⟩
    have few := ok.few
    obtain ⟨xb, ebx⟩ := hb.ex
    have kp : ∀ H', StB b H H' → MdW H' m M kvs dl dh lt lo := fun H' st => ⟨st _ _ (ne_of em ebx (fun z => nomatch z)) em, k4, v1, v2, v3, v4, st _ _ (ne_of el ebx (fun z => nomatch z)) el, st _ _ (ne_of eh ebx (fun z => nomatch z)) eh, et.st st b1 ⟨xb, ebx⟩, st _ _ (Ne.symm b2) eo⟩
    have asc : ∀ x ∈ M.ns, Ascii x := fun x hx => (ok.nm x hx).1.ascii
    have l0 : (0 : Nat) ≤ sizeLine := Nat.zero_le _
    refine ⟨_, rfl, m, _, rfl, dgv em v1, dl, _, M.ns, rfl, .inl el, mp_fst, by omega, fun ys p pm hs hp => ⟨p, rfl, ⟨_, SqL.of upd_same⟩, fun D hD => ?_⟩⟩
    have ylen := pm.length_eq
    have ynd := pm.nodup_iff.mpr ok.nd
    have bp : b ≠ p := ne_of_none ebx hp
    have s1 : StB b H (upd H p (.lst (ys.map V.str))) := StB.new hp
    have bD : b ≠ D := ne_of_none ((upd_ne bp).trans ebx) hD
    have pD : D ≠ p := (fresh_upd hD).1
    have hDH : H D = none := (fresh_upd hD).2
    refine lc_it walk_names (fun i H' => StB b H H' ∧ BoxAt H' b (k + i) ∧ H' p = some (.lst (ys.map V.str)) ∧ ∃ acc : List Str, H' D = some (.lst (acc.map V.str)) ∧ acc.Sublist (ys.take i)) ⟨s1.tr (StB.new hD), (hb.wr bp).wr bD, (upd_ne (Ne.symm pD)).trans upd_same, [], upd_same, List.nil_sublist _⟩ (fun i H' _ h => SqL.of h.2.2.1) (fun i x H2 H3 hi h hy => ?_) (fun H2 h => ?_)
    · obtain ⟨st, bx, ep, acc, eD, sub⟩ := h
      obtain ⟨rfl, n, hn, rfl⟩ := hy
      have al : acc.length ≤ i := by have := sub.length_le; rw [List.length_take] at this; omega
      refine ⟨rfl, _, rfl, b, 4, _, rfl, bx, by omega, by decide, by decide, fun H4 d s4 b4 d0 d1 => ⟨rfl, _, rfl, ?_⟩⟩
      have eD4 := s4 D _ (Ne.symm bD) eD
      have ep4 := s4 p _ (Ne.symm bp) ep
      refine ite2 (fun c => ⟨_, rfl, _, eD4, by rw [List.length_map]; exact line8' (by omega), (st.tr s4).wrN hDH, b4.wr bD, (upd_ne (Ne.symm pD)).trans ep4, acc ++ [n], by rw [upd_same, List.map_append]; rfl, ?_⟩) (fun c => ⟨st.tr s4, b4, ep4, acc, eD4, ?_⟩)
      · rw [take_next hn]; exact sub.append (List.Sublist.refl _)
      · rw [take_next hn]; exact sub.trans (List.sublist_append_left _ _)
    · obtain ⟨st, bx, ep, so, eD, sub⟩ := h
      rw [List.take_length] at sub
      have sond : so.Nodup := sub.nodup ynd
      have soin : ∀ x ∈ so, x ∈ M.ns := fun x hx => pm.mem_iff.mp (sub.subset hx)
      have sol : so.length ≤ 8 := by have := sub.length_le; omega
      have W2 := kp H2 st
      refine ⟨_, rfl, m, _, rfl, dgv W2.1 v4, l0, fun e he => ?_⟩
      have W3 := kp _ (st.tr (StB.new (o := .lst []) he))
      refine ⟨dS M.os, .list [], dp_strs W3.2.2.2.2.2.2.2.2.2, .lst (SqL.of upd_same) .nil, shaped_dS (fun x hx => asc x (ok.oin x hx)), shaped_nil, _, rfl, ?_⟩
      rw [eqv_nil]
      have st3 : StB b H (upd H2 e (.lst [])) := st.tr (StB.new he)
      have be : b ≠ e := by obtain ⟨xs, z⟩ := bx.ex; exact ne_of_none z he
      have bx3 : BoxAt (upd H2 e (.lst [])) b (k + ys.length) := bx.wr be
      have eD3 : upd H2 e (.lst []) D = some (.lst (so.map V.str)) := ext_new he _ _ eD
      have fin : ∀ H' j, StB b H H' → BoxAt H' b j → j ≤ k + 100 → Q (.ref m) H' := fun H' j st' b' hj => q H' M (fun x o hx _ h => st' x o hx h) (b'.mono hj) ⟨kvs, dl, dh, lt, lo, kp H' st'⟩ ok
      cases hos : M.os with
      | cons o0 or => exact ⟨_, rfl, fin _ _ st3 bx3 (by omega)⟩
      | nil =>
        refine ⟨_, rfl, b, 6, _, rfl, bx3, by omega, by decide, by decide, fun H4 d s4 b4 d0 d1 => ⟨_, _, rfl, rfl, _, rfl, ?_⟩⟩
        refine ite2 (fun c => ?_) (fun c => ⟨_, rfl, fin _ _ (st3.tr s4) b4 (by omega)⟩)
        have st4 := st3.tr s4
        have W4 := kp _ st4
        have eD4 := s4 D _ (Ne.symm bD) eD3
        refine ⟨_, rfl, _, rfl, m, _, rfl, dgv W4.1 v1, dl, _, M.ns, rfl, .inl W4.2.2.2.2.2.2.1, mp_fst, by omega, fun ys2 p2 pm2 hs2 hp2 => ?_⟩
        have bp2 : b ≠ p2 := by obtain ⟨xs, z⟩ := b4.ex; exact ne_of_none z hp2
        have st5 : StB b H (upd H4 p2 (.lst (ys2.map V.str))) := st4.tr (StB.new hp2)
        have W5 := kp _ st5
        have y2l := pm2.length_eq
        have one := ok.one
        refine ⟨_, rfl, _, rfl, m, _, rfl, dgv W5.1 v1, dl, _, rfl, W5.2.2.2.2.2.2.1, b, _, _, rfl, b4.wr bp2, by omega, by rw [mp_len]; omega, by rw [mp_len]; omega, fun H6 dj s6 b6 dj0 dj1 => ?_⟩
        rw [mp_len] at dj1
        obtain ⟨j, rfl⟩ : ∃ j : Nat, dj = j := ⟨dj.toNat, by omega⟩
        obtain ⟨xn, hxn⟩ : ∃ x, ys2[j]? = some x := ⟨_, List.getElem?_eq_getElem (by omega)⟩
        have st6 := st5.tr s6
        have eD6 := s6 D _ (Ne.symm bD) (ext_new hp2 _ _ eD4)
        refine ⟨p2, _, (j : Int), .str xn, rfl, rfl, SqL.of (s6 p2 _ (Ne.symm bp2) upd_same), atI_nat (by rw [List.getElem?_map, hxn]; rfl), line1, fun p3 hp3 => ?_⟩
        have bp3 : b ≠ p3 := by obtain ⟨xs, z⟩ := b6.ex; exact ne_of_none z hp3
        have st7 : StB b H (upd H6 p3 (.lst [.str xn])) := st6.tr (StB.new hp3)
        have eD7 : upd H6 p3 (.lst [.str xn]) D = some (.lst (so.map V.str)) := ext_new hp3 _ _ eD6
        refine ⟨_, rfl, l0, fun e2 he2 => ⟨dS so, .list [], dp_strs (ext_new he2 _ _ eD7), .lst (SqL.of upd_same) .nil, shaped_dS (fun x hx => asc x (soin x hx)), shaped_nil, .inr ⟨_, rfl, ?_⟩⟩⟩
        rw [eqv_nil]
        have st8 : StB b H (upd (upd H6 p3 (.lst [.str xn])) e2 (.lst [])) := st7.tr (StB.new he2)
        have bp4 : b ≠ e2 := by obtain ⟨xs, z⟩ := (b6.wr (o := .lst [.str xn]) bp3).ex; exact ne_of_none z he2
        have b8 := (b6.wr (o := .lst [.str xn]) bp3).wr (o := .lst []) bp4
        have e38 : upd (upd H6 p3 (.lst [.str xn])) e2 (.lst []) p3 = some (.lst [.str xn]) := ext_new he2 _ _ upd_same
        have eD8 := ext_new (o := .lst []) he2 _ _ eD7
        generalize upd (upd H6 p3 (.lst [.str xn])) e2 (.lst []) = H8 at st8 b8 e38 eD8 ⊢
        refine ⟨p3, _, _, rfl, rfl, e38, by split <;> omega, by split <;> omega, ?_, fun p5 hp5 => ?_⟩
        · show 1 * _ ≤ sizeLine
          exact line8 (by split <;> decide)
        rw [rep_one]
        have W9 := kp _ (st8.tr (StB.new (o := .lst (if ((so.map PyData.str).isEmpty) = true then [V.str xn] else [])) hp5))
        have bp5 : b ≠ p5 := by obtain ⟨xs, z⟩ := b8.ex; exact ne_of_none z hp5
        refine ⟨D, p5, _, _, rfl, rfl, ext_new hp5 _ _ eD8, upd_same, ?_, fun p6 hp6 => ?_⟩
        · rw [List.length_map]; exact line8 (by split <;> (simp only [List.length_cons, List.length_nil]; omega))
        have st10 := (st8.tr (StB.new (o := .lst (if ((so.map PyData.str).isEmpty) = true then [V.str xn] else [])) hp5)).tr (StB.new (o := .lst (so.map V.str ++ (if ((so.map PyData.str).isEmpty) = true then [V.str xn] else []))) hp6)
        have b9 := b8.wr (o := .lst (if ((so.map PyData.str).isEmpty) = true then [V.str xn] else [])) bp5
        have bp6 : b ≠ p6 := by obtain ⟨xs, z⟩ := b9.ex; exact ne_of_none z hp6
        have b10 := b9.wr (o := .lst (so.map V.str ++ (if ((so.map PyData.str).isEmpty) = true then [V.str xn] else []))) bp6
        have e10 : upd (upd H8 p5 (.lst (if ((so.map PyData.str).isEmpty) = true then [V.str xn] else []))) p6 (.lst (so.map V.str ++ (if ((so.map PyData.str).isEmpty) = true then [V.str xn] else []))) p6 = some (.lst ((so ++ (if so.isEmpty = true then [xn] else [])).map V.str)) := by
          rw [upd_same, List.map_append]
          cases so <;> rfl
        generalize upd (upd H8 p5 (.lst (if ((so.map PyData.str).isEmpty) = true then [V.str xn] else []))) p6 (.lst (so.map V.str ++ (if ((so.map PyData.str).isEmpty) = true then [V.str xn] else []))) = H10 at st10 b10 e10 ⊢
        obtain ⟨em10, _, _, _, _, _, el10, eh10, et10, eo10⟩ := kp H10 st10
        refine ⟨_, rfl, m, _, rfl, DPut.k (k := .inr "outlets") em10 (line8' (by omega)), _, rfl, ?_⟩
        have notmp : ∀ f : Str → Int, kvs ≠ mp M.ns fun n => .int (f n) := fun f z => by
          have := v3
          rw [z, valV_mp] at this
          split at this <;> cases this
        have dlm : dl ≠ m := fun z => by rw [z, em10] at el10; exact notmp _ (HO.dK.inj (Option.some.inj el10))
        have dhm : dh ≠ m := fun z => by rw [z, em10] at eh10; exact notmp _ (HO.dK.inj (Option.some.inj eh10))
        obtain ⟨L, eL, r, tt⟩ := et10
        have fm : b ≠ m := by obtain ⟨xs, z⟩ := b10.ex; exact ne_of z em10 (fun z => nomatch z)
        have xin : xn ∈ M.ns := pm2.mem_iff.mp (List.mem_of_getElem? hxn)
        have nd' : (so ++ (if so.isEmpty = true then [xn] else [])).Nodup ∧ ∀ x ∈ so ++ (if so.isEmpty = true then [xn] else []), x ∈ M.ns := by
          cases so with
          | nil => exact ⟨by simp, fun x hx => by rw [show x = xn by simpa using hx]; exact xin⟩
          | cons s0 sr => rw [if_neg (by simp), List.append_nil]; exact ⟨sond, soin⟩
        refine q _ { M with os := so ++ (if so.isEmpty = true then [xn] else []) } (fun x o hx hxm h => (upd_ne hxm).trans (st10 x o hx h)) ((b10.wr fm).mono (by omega)) ⟨putK kvs (.inr "outlets") (.ref p6), dl, dh, lt, p6, upd_same, ?_, ?_, ?_, ?_, ?_, (upd_ne dlm).trans el10, (upd_ne dhm).trans eh10, ⟨L, (upd_ne (ne_of eL em10 (fun z => nomatch z))).trans eL, fun q hq => (upd_ne (ne_of (r q hq) em10 (fun z => nomatch z))).trans (r q hq), tt⟩, (upd_ne (ne_of e10 em10 (fun z => nomatch z))).trans e10⟩
          ⟨ok.nd, ok.one, ok.few, ok.nm, ok.rng, ok.tin, ok.tfew, nd'.1, nd'.2⟩
        · unfold putK
          rw [valV_any, v4, if_pos (show (some (V.ref lo)).isSome = true from rfl), List.length_map]; exact k4
        · rw [valV_put, if_neg (by decide)]; exact v1
        · rw [valV_put, if_neg (by decide)]; exact v2
        · rw [valV_put, if_neg (by decide)]; exact v3
        · rw [valV_put, if_pos rfl]
end
end SH
/-! W26 -/
set_option Elab.async false
set_option linter.all false
set_option maxRecDepth 100000
set_option maxHeartbeats 1000000
namespace SH
open PySem PySem.Spec PyProof.Rows L2 LamX
theorem mergeK_paired {f : Str → V} : ∀ (ns acc : List Str) (kvs : List (Key × V)), kvs = mp ns f → (acc ++ ns).Nodup → mergeK (mp acc f) kvs = mp (acc ++ ns) f := fun ns acc kvs e h => by rw [e]; exact mergeK_mp ns acc h
theorem paired_fn {R : Str → V → Prop} : ∀ {ns : List Str} {ys : List V}, Paired R ns ys → ns.Nodup → ∃ f : Str → V, ys = ns.map f ∧ ∀ n ∈ ns, R n (f n)
  | [], _, .nil, _ => ⟨fun _ => .non, rfl, fun n h => by simp at h⟩
  | n :: ns, _, .cons h t, nd => by
    obtain ⟨h1, h2⟩ := List.nodup_cons.mp nd
    obtain ⟨f, e, r⟩ := paired_fn t h2
    rename_i y ys
    refine ⟨fun m => if m = n then y else f m, ?_, fun m hm => ?_⟩
    · rw [List.map_cons, if_pos rfl, e]
      congr 1
      exact List.map_congr_left fun m hm => (if_neg (fun (z : m = n) => h1 (z ▸ hm))).symm
    · show R m (if m = n then y else f m)
      by_cases c : m = n
      · rw [if_pos c, c]; exact h
      · rw [if_neg c]; exact r m ((List.mem_cons.mp hm).resolve_left c)
theorem pick_any {ns : List Str} {p : Str → Addr → Prop} (r : ∀ n ∈ ns, ∃ a, p n a) : ∃ g : Str → Addr, ∀ n ∈ ns, p n (g n) := by
  refine ⟨fun n => if h : n ∈ ns then Classical.choose (r n h) else 0, fun n hn => ?_⟩
  show p n (dite _ _ _)
  rw [dif_pos hn]
  exact Classical.choose_spec (r n hn)
theorem paired_maps {α β γ : Type} {F : β → γ → Prop} {f : α → β} {g : α → γ} : ∀ {l : List α}, (∀ x ∈ l, F (f x) (g x)) → Paired F (l.map f) (l.map g)
  | [], _ => .nil
  | x :: l, h => .cons (h x List.mem_cons_self) (paired_maps fun y hy => h y (List.mem_cons_of_mem _ hy))
section
variable {P : Program} {w : World} {K : Frg} {mg : Str → Option Value} {base : Heap}
abbrev nCh : List Str := ["_law_model_here", "_law_places", "_law_name", "_law_low"]
def spCh (K : Frg) : Sp := fun vs H Q _ => ∃ (m : Addr) (M : Md), vs = [.ref m] ∧ MdAt H m M ∧ M.Ok ∧ ∀ H' a ch, Up K H H' → ChartAt K H' a ch → HeldNew H H' a → ChOf ch M.ns M.lo M.hi M.ts M.os → Q (.ref a) H'
theorem sc_Ch : FnScope nCh ["_law_model_here"] (defScope s_law_chart) := sc_of
theorem c_chart (t : T K mg) : Cal P w K mg base 6 "_law_chart" (spCh K) [] := by
  refine cal_of t.d_law_chart sc_Ch (fun _ _ _ _ _ _ us hl => match us, hl with | [_], _ => rfl) (fun vs H Q E h => ?_) (fun f cdv A outer s H vs Q E hr h => ?_)
  · obtain ⟨a, _, rfl, _⟩ := h
    rfl
  · obtain ⟨m, M, rfl, ⟨kvs, dl, dh, lt, lo, em, k4, v1, v2, v3, v4, el, eh, et, eo⟩, ok, q⟩ := h
    have nd := sc_Ch.nd
    have hu := hu_of hr
    have few := ok.few
    refine ⟨_, pss_cons (sv 1 nd (ct (call_dictP rfl) t.n_dict (pa_cons (pe_lock (pe_lc (own := [("_law_name", 2), ("_law_low", 3)]) (g := gTup K 2 (gCons (gName 2) (gCons (gName 3) gNil))) (te := tTup (tCons (tVar 2) (tCons (tMake (cB K) (spBInit K) [] E0 (tCons (tVar 3) (tCons (tDGet (tDGet (tVar 0) (tC (.str "high"))) (tVar 2)) tNil))) tNil))) rfl nd (pi_items (pe_dget hu (pv 0) pe_str (fun _ _ => rfl))) (bk nCh s_law_chart)
        (fun _ _ _ _ _ => pg_tup rfl (pgs_cons (pg_name (i := 2) nd rfl (Or.inl rfl)) (pgs_cons (pg_name (i := 3) nd rfl (Or.inl rfl)) pgs_nil)))
        (fun _ _ _ _ _ => pts_nil)
        (fun _ _ _ _ _ => pe_tup (pa_cons (pv 2) (pa_cons (pe_mk (m_BInit t) t.mkB t.kB t.gB hr (by decide) (pa_cons (pv 3) (pa_cons (pe_dget hu (pe_dget hu (pv 0) pe_str (fun _ _ => rfl)) (pv 2) (fun _ _ => rfl)) pa_nil))) pa_nil))))) pa_nil)))
      (pss_one (ps_ret (pe_mkC (m_CInit t) t.mkC t.kC t.gC hr (by decide) (pa_cons (pv 1) (pa_cons (pe_dget hu (pv 0) pe_str (fun _ _ => rfl)) pa_nil)) (pk_cons (pe_dget hu (pv 0) pe_str (fun _ _ => rfl)) pk_nil)))), ?_⟩
    have nmd : dl ≠ m := fun z => by
      rw [z, em] at el
      have : kvs = mp M.ns fun n => .int (M.lo n) := HO.dK.inj (Option.some.inj el)
      have := this ▸ v3
      rw [valV_mp] at this
      split at this <;> cases this
    have ndd : ∀ (x : Addr) (u : HO), H x = some u → (∀ z, u ≠ .dK z) → x ≠ dl := fun x u e n z => by rw [z, el] at e; exact n _ (Option.some.inj e).symm
    refine ⟨dl, _, el, trivial, fun od => ⟨_, rfl, m, _, rfl, dgv ((upd_ne (Ne.symm nmd)).trans em) v1, dl, od, _, rfl, upd_same, fun D hD => ?_⟩⟩
    have rdh : ∀ H', Up K (upd H dl (.frz od (.dK (mp M.ns fun n => .int (M.lo n))))) H' → Rd H' dh (.dK (mp M.ns fun n => .int (M.hi n))) := fun H' u => by
      by_cases c : dh = dl
      · subst c
        rw [el] at eh
        have e : mp M.ns (fun n => V.int (M.lo n)) = mp M.ns fun n => .int (M.hi n) := HO.dK.inj (Option.some.inj eh)
        rw [← e]
        exact .inr ⟨od, u.at upd_same⟩
      · exact .inl (u.at ((upd_ne c).trans eh))
    refine lcR (K := K) (walk_itm M.ns) hD (fun _ => true) (fun n y H => ∃ (T bd dx : Addr), y = .ref T ∧ H T = some (.tup [.str n, .ref bd]) ∧ H bd = some (.ins (cB K) dx [("low", .int (M.lo n)), ("high", .int (M.hi n))])) (by omega) (fun H u => u.at upd_same)
      (fun z y H H' st ⟨T, bd, dx, e, h1, h2⟩ => ⟨T, bd, dx, e, st _ _ h1 trivial (fun xs c => nomatch c), st _ _ h2 trivial (fun xs c => nomatch c)⟩) (fun i n x H3 H' Pn Py hn u3 hy kn ky => ?_) (fun H3 ys u3 e3 r3 => ?_)
    · obtain ⟨T, n', hn', rfl, hT, rfl⟩ := hy
      obtain rfl : n = n' := Option.some.inj (hn.symm.trans hn')
      have hm := List.mem_of_getElem? hn
      have u4 := u3.add (o := .tup [.str n, .int (M.lo n)]) hT
      obtain ⟨g1, g2, g3⟩ := ok.rng n hm
      refine ⟨T, _, rfl, SqT.of upd_same, rfl, _, _, rfl, _, _, rfl, rfl, rfl, _, rfl, _, rfl, _, rfl, m, _, rfl, dgv (u4.at ((upd_ne (Ne.symm nmd)).trans em)) v2, _, rfl, dh, _, rfl, dget_mp (f := fun n => V.int (M.hi n)) (rdh _ u4) hm, fun x dx hx hdx hne => ?_⟩
      refine ⟨x, dx, M.lo n, M.hi n, rfl, upd_same, g1, g2, g3, rfl, line2, fun tp htp => ?_⟩
      have x3 := (fresh_upd hx).2
      have dx3 := (fresh_upd hdx).2
      have tp1 := fresh_upd htp
      have tp3 := (fresh_upd (fresh_upd (fresh_upd tp1.2).2).2).2
      refine ky _ _ (Up.all (((((show St1 H3 (upd H3 T _) from ext_new hT).rd dx3).rd x3).rd x3).rd tp3)) rfl ⟨tp, x, dx, rfl, upd_same, ?_⟩
      rw [upd_ne (Ne.symm tp1.1), upd_same]
    · refine ⟨u3.at upd_same, ?_⟩
      have hDl : D ≠ dl := fun z => by rw [z, upd_same] at hD; cases hD
      have U3 := Up.lock el trivial u3
      rw [show M.ns.filter (fun _ => true) = M.ns from List.filter_eq_self.mpr fun _ _ => rfl] at r3
      obtain ⟨f, rfl, hf⟩ := paired_fn r3 ok.nd
      obtain ⟨al, hal⟩ := pick_al (f := f) (p := fun n T => ∃ bd dx, H3 T = some (.tup [.str n, .ref bd]) ∧ H3 bd = some (.ins (cB K) dx [("low", .int (M.lo n)), ("high", .int (M.hi n))])) fun n hn => by
        obtain ⟨T, bd, dx, e, h1, h2⟩ := hf n hn
        exact ⟨T, e, bd, dx, h1, h2⟩
      obtain ⟨bd, hbd⟩ := pick_any (ns := M.ns) (p := fun n b => ∃ dx, H3 (al n) = some (.tup [.str n, .ref b]) ∧ H3 b = some (.ins (cB K) dx [("low", .int (M.lo n)), ("high", .int (M.hi n))])) fun n hn => (hal n hn).2
      have lkd : ∀ (x : Addr) (u : HO), H3 x = some u → (∀ od z, u ≠ .frz od z) → upd H3 dl (.dK (mp M.ns fun n => .int (M.lo n))) x = some u := fun x u e n => by
        rw [upd_ne]
        · exact e
        · rintro rfl
          rw [u3.at upd_same] at e
          exact n _ _ (Option.some.inj e).symm
      refine ⟨D, M.ns.map al, mp M.ns fun n => .ref (bd n), rfl, SqL.of ?_, ?_, fun p hp => ?_⟩
      · rw [lkd _ _ e3 (fun _ _ z => nomatch z)]
        congr 2
        rw [List.map_map]
        exact List.map_congr_left fun n hn => (hal n hn).1
      · refine paired_maps fun n hn => SqT.of ?_
        obtain ⟨dx, h1, h2⟩ := hbd n hn
        exact lkd _ _ h1 (fun _ _ z => nomatch z)
      · rw [mergeK_nil ok.nd]
        have U4 := U3.add (o := .dK (mp M.ns fun n => .ref (bd n))) hp
        have em4 := U4.at em
        refine ⟨_, rfl, _, rfl, m, _, rfl, dgv em4 v3, _, rfl, m, _, rfl, dgv em4 v4, rfl, rfl, fun x dx hx hdx hne => ?_⟩
        refine ⟨x, dx, p, lt, lo, _, M.ns, M.lo, M.hi, M.ts, M.os, rfl, rfl, hx, hdx, hne, ⟨bd, upd_same, fun n hn => ?_⟩, et.up U4, U4.at eo, ok.nd, ok.few, fun n hn => (ok.nm n hn).1, ok.rng, ok.tin, ok.tfew, ok.ond, ok.oin, fun H' ch u hc hn cof => ⟨rfl, q H' x ch (U4.trans u) hc (fun C dx fs dh e1 e2 kvs e3 => hn C dx fs dh e1 e2 kvs (U4.at e3)) cof⟩⟩
        obtain ⟨dx, h1, h2⟩ := hbd n hn
        exact ⟨dx, ext_new hp _ _ (lkd _ _ h2 (fun _ _ z => nomatch z))⟩
end
end SH
/-! W27 -/
set_option Elab.async false
set_option linter.all false
set_option maxRecDepth 100000
set_option maxHeartbeats 1000000
namespace SH
open PySem PySem.Spec PyProof.Rows L2 LamX
def nearM (M : Md) (n : Str) : List Str := (M.ts.filter fun p => decide (p.1 = n)).map (·.2) ++ (M.ts.filter fun p => decide (p.2 = n)).map (·.1)
theorem mem_nearM {M : Md} {n o : Str} : o ∈ nearM M n ↔ (n, o) ∈ M.ts ∨ (o, n) ∈ M.ts := by
  unfold nearM
  rw [List.mem_append, List.mem_map, List.mem_map]
  constructor
  · rintro (⟨p, hp, rfl⟩ | ⟨p, hp, rfl⟩)
    · obtain ⟨h1, h2⟩ := List.mem_filter.mp hp
      exact .inl (by rw [← of_decide_eq_true h2]; exact h1)
    · obtain ⟨h1, h2⟩ := List.mem_filter.mp hp
      exact .inr (by rw [← of_decide_eq_true h2]; exact h1)
  · rintro (h | h)
    · exact .inl ⟨_, List.mem_filter.mpr ⟨h, decide_eq_true rfl⟩, rfl⟩
    · exact .inr ⟨_, List.mem_filter.mpr ⟨h, decide_eq_true rfl⟩, rfl⟩
theorem fm_pairs {p : Pr → Bool} {g : Pr → Str} : ∀ L : List (Addr × Pr), L.filterMap (fun q => if p q.2 = true then some (V.str (g q.2)) else none) = (((L.map (·.2)).filter p).map g).map V.str
  | [] => rfl
  | q :: L => by
    rw [List.filterMap_cons, List.map_cons, List.filter_cons, fm_pairs L]
    by_cases c : p q.2 = true
    · rw [if_pos c, if_pos c]; rfl
    · rw [if_neg c, if_neg c]
section
variable {P : Program} {w : World} {K : Frg} {mg : Str → Option Value} {base : Heap}
abbrev nNe : List Str := ["_law_model_here", "_law_name", "_law_a", "_law_b"]
def spNe (K : Frg) : Sp := fun vs H Q _ => ∃ (m : Addr) (n : Str) (M : Md), vs = [.ref m, .str n] ∧ MdAt H m M ∧ M.Ok ∧ ∀ H' a, Up K H H' → Fr H a → H' a = some (.lst ((nearM M n).map V.str)) → Q (.ref a) H'
theorem sc_Ne : FnScope nNe ["_law_model_here", "_law_name"] (defScope s_law_near) := sc_of
theorem walk_refs {K : Frg} {a : Addr} {L : List (Addr × Pr)} : Walk (Itl K a) L.length (fun H => SqL K H a (L.map fun q => V.ref q.1)) (fun i H x H' => H' = H ∧ ∃ q, L[i]? = some q ∧ x = .ref q.1) := by
  have := walk_list (K := K) (a := a) (xs := L.map fun q => V.ref q.1)
  rw [List.length_map] at this
  exact this.mono (fun _ h => h) fun i H x H' _ _ y => by
    obtain ⟨e, h⟩ := y
    rw [List.getElem?_map] at h
    obtain ⟨q, h1, h2⟩ := Option.map_eq_some_iff.mp h
    exact ⟨e, q, h1, h2.symm⟩
theorem c_near (t : T K mg) : Cal P w K mg base 1 "_law_near" (spNe K) [] := by
  refine cal_of t.d_law_near sc_Ne (fun _ _ _ _ _ _ us hl => match us, hl with | [_, _], _ => rfl) (fun vs H Q E h => ?_) (fun f cdv A outer s H vs Q E hr h => ?_)
  · obtain ⟨a, _, _, rfl, _⟩ := h
    rfl
  · obtain ⟨m, n, M, rfl, ⟨kvs, dl, dh, lt, lo, em, k4, v1, v2, v3, v4, el, eh, ⟨L, eL, r, hts⟩, eo⟩, ok, q⟩ := h
    have nd := sc_Ne.nd
    have hu := hu_of hr
    have tfew := ok.tfew
    have llen : L.length ≤ 40 := by rw [← hts, List.length_map] at tfew; exact tfew
    refine ⟨_, pss_one (ps_ret (pe_op op_cat
      (pe_lc (own := [("_law_a", 2), ("_law_b", 3)]) (g := gTup K 2 (gCons (gName 2) (gCons (gName 3) gNil))) rfl nd (pi_list (pe_dget hu (pv 0) pe_str (fun _ _ => rfl))) (bk nNe s_law_near)
        (fun _ _ _ _ _ => pg_tup rfl (pgs_cons (pg_name (i := 2) nd rfl (Or.inl rfl)) (pgs_cons (pg_name (i := 3) nd rfl (Or.inl rfl)) pgs_nil))) (fun _ _ _ _ _ => pts_one (pt_cmpR op_eq (pv 2) (pv 1) (nomark _))) (fun _ _ _ _ _ => pv 3))
      (pe_lc (own := [("_law_a", 2), ("_law_b", 3)]) (g := gTup K 2 (gCons (gName 2) (gCons (gName 3) gNil))) rfl nd (pi_list (pe_dget hu (pv 0) pe_str (fun _ _ => rfl))) (bk nNe s_law_near)
        (fun _ _ _ _ _ => pg_tup rfl (pgs_cons (pg_name (i := 2) nd rfl (Or.inl rfl)) (pgs_cons (pg_name (i := 3) nd rfl (Or.inl rfl)) pgs_nil))) (fun _ _ _ _ _ => pts_one (pt_cmpR op_eq (pv 3) (pv 1) (nomark _))) (fun _ _ _ _ _ => pv 2)))), ?_⟩
    refine ⟨_, rfl, m, _, rfl, dgv em v3, lt, rfl, ⟨_, SqL.of eL⟩, fun D hD => lcF (K := K) walk_refs hD (fun q => if (fun p : Pr => decide (p.1 = n)) q.2 = true then some (.str ((fun p : Pr => p.2) q.2)) else none) (by omega) (fun H u => SqL.of (u.at eL)) (fun i q x H2 H' Pn Py hq u hy kn ky => ?_) (fun H2 u2 e2 => ?_)⟩
    · obtain ⟨rfl, q', hq', rfl⟩ := hy
      obtain rfl : q = q' := Option.some.inj (hq.symm.trans hq')
      have hm := r q (List.mem_of_getElem? hq)
      refine ⟨q.1, _, rfl, SqT.of (u.at hm), rfl, _, _, rfl, _, _, rfl, rfl, rfl, _, rfl, _, rfl, rfl, _, rfl, ?_⟩
      refine ite2 (fun c => ⟨_, rfl, ky _ _ Up.rfl' (if_pos ?_)⟩) (fun c => kn _ Up.rfl' (if_neg ?_))
      · exact decide_eq_true (V.str.inj (of_decide_eq_true c))
      · exact fun z => c (decide_eq_true (congrArg V.str (of_decide_eq_true z)))
    · replace e2 : H2 D = some (.lst (((M.ts.filter fun p => decide (p.1 = n)).map (·.2)).map V.str)) := by
        rw [e2, ← hts]; exact congrArg (fun l => some (HO.lst l)) (fm_pairs (p := fun p => decide (p.1 = n)) (g := fun p => p.2) L)
      have em2 := u2.at em
      have eL2 := u2.at eL
      refine ⟨_, rfl, m, _, rfl, dgv em2 v3, lt, rfl, ⟨_, SqL.of eL2⟩, fun D2 hD2 => lcF (K := K) walk_refs hD2 (fun q => if (fun p : Pr => decide (p.2 = n)) q.2 = true then some (.str ((fun p : Pr => p.1) q.2)) else none) (by omega) (fun H u => SqL.of (u.at eL2)) (fun i q x H3 H' Pn Py hq u hy kn ky => ?_) (fun H3 u3 e3 => ?_)⟩
      · obtain ⟨rfl, q', hq', rfl⟩ := hy
        obtain rfl : q = q' := Option.some.inj (hq.symm.trans hq')
        have hm := u2.at (r q (List.mem_of_getElem? hq))
        refine ⟨q.1, _, rfl, SqT.of (u.at hm), rfl, _, _, rfl, _, _, rfl, rfl, rfl, _, rfl, _, rfl, rfl, _, rfl, ?_⟩
        refine ite2 (fun c => ⟨_, rfl, ky _ _ Up.rfl' (if_pos ?_)⟩) (fun c => kn _ Up.rfl' (if_neg ?_))
        · exact decide_eq_true (V.str.inj (of_decide_eq_true c))
        · exact fun z => c (decide_eq_true (congrArg V.str (of_decide_eq_true z)))
      · replace e3 : H3 D2 = some (.lst (((M.ts.filter fun p => decide (p.2 = n)).map (·.1)).map V.str)) := by
          rw [e3, ← hts]; exact congrArg (fun l => some (HO.lst l)) (fm_pairs (p := fun p => decide (p.2 = n)) (g := fun p => p.1) L)
        have e23 := u3.at e2
        refine ⟨D, D2, _, _, rfl, rfl, e23, e3, ?_, fun p hp => q _ p ((u2.trans u3).add hp) ((Fr.of hp).back (u2.trans u3)) ?_⟩
        · rw [List.length_map, List.length_map, List.length_map, List.length_map]
          have h1 : (M.ts.filter fun p => decide (p.1 = n)).length ≤ M.ts.length := List.length_filter_le ..
          have h2 : (M.ts.filter fun p => decide (p.2 = n)).length ≤ M.ts.length := List.length_filter_le ..
          exact line8 (by omega)
        · rw [upd_same]; unfold nearM; rw [List.map_append]
end
end SH
/-! W28 -/
set_option Elab.async false
set_option linter.all false
set_option maxRecDepth 100000
set_option maxHeartbeats 1000000
namespace SH
open PySem PySem.Spec PyProof.Rows L2 LamX
theorem inV_str (o : Str) : ∀ l : List Str, inV (.str o) (l.map V.str) = decide (o ∈ l)
  | [] => by rfl
  | x :: l => by
    have ih := inV_str o l
    unfold inV at ih ⊢
    rw [List.map_cons, List.any_cons, ih]
    show ((x == o) || decide (o ∈ l)) = _
    by_cases c : o ∈ l
    · rw [decide_eq_true c, decide_eq_true (List.mem_cons_of_mem _ c), Bool.or_true]
    · rw [decide_eq_false c, Bool.or_false]
      by_cases d : x = o
      · rw [d, decide_eq_true List.mem_cons_self, beq_self_eq_true]
      · rw [decide_eq_false (fun z => (List.mem_cons.mp z).elim (fun e => d e.symm) c), beq_eq_false_iff_ne.mpr d]
theorem flat_strs (l : List Str) : (l.map V.str).all flatV = true := by
  rw [List.all_map, List.all_eq_true]; exact fun _ _ => rfl
/-- reached by ties -/
abbrev RM (M : Md) (s o : Str) : Prop := Rch (nearM M) (fun _ => 0) 0 s o
section
variable {P : Program} {w : World} {K : Frg} {mg : Str → Option Value} {base : Heap}
abbrev nFl : List Str := ["_law_model_here", "_law_values", "_law_start", "_law_level", "_law_found", "_law_at", "_law_other"]
def spFl (K : Frg) : Sp := fun vs H Q _ => ∃ (m d : Addr) (st : Str) (M : Md), vs = [.ref m, .ref d, .str st, .int 0] ∧ MdAt H m M ∧ M.Ok ∧ H d = some (.dK (mp M.ns fun _ => .int 0)) ∧ st ∈ M.ns ∧
  ∀ (H' : Hp) (a : Addr) (rs : List Str), Up K H H' → H' a = some (.lst (rs.map V.str)) → (∀ o ∈ rs, o ∈ M.ns ∧ RM M st o) → rs.length ≤ 8 → Q (.ref a) H'
theorem sc_Fl : FnScope nFl ["_law_model_here", "_law_values", "_law_start", "_law_level"] (defScope s_law_flood) := sc_of
theorem c_flood (t : T K mg) : Cal P w K mg base 2 "_law_flood" (spFl K) [] := by
  refine cal_of t.d_law_flood sc_Fl (fun _ _ _ _ _ _ us hl => match us, hl with | [_, _, _, _], _ => rfl) (fun vs H Q E h => ?_) (fun f cdv A outer s H vs Q E hr h => ?_)
  · obtain ⟨a, _, _, _, rfl, _⟩ := h
    rfl
  · obtain ⟨m, d, st, M, rfl, hM, ok, hd, hst, q⟩ := h
    have nd := sc_Fl.nd
    have hu := hu_of hr
    have few := ok.few
    refine ⟨_, pss_cons (ps_par (i := 4) (j := 5) rfl nd rfl rfl (by decide) rfl rfl (pa_cons (pe_lst (pa_cons (pv 2) pa_nil)) (pa_cons pe_int pa_nil)) (by with_unfolding_all rfl))
      (pss_cons (ps_while PassesOwn.never (pt_cmpR op_lt (pv 5) (cb call_len_seq t.n_len (pa_cons (pv 4) pa_nil)) (nomark _))
        (pss_cons (ps_for PassesOwn.never rfl (pi_list (pe_c (c_near t) hr (by decide) (pa_cons (pv 0) (pa_cons (pe_ix ix_list (pv 4) (pv 5) (fun _ _ => rfl)) pa_nil)))) (gv 6 nd)
          (pss_one (ps_if (PW.pt (pw_and (pt_cmpR op_le (pe_dget hu (pv 1) (pv 6) (fun _ _ => rfl)) (pv 3) (nomark _)) (pw_and1 (pt_cmpR op_notIn_seq (pv 6) (pv 4) rfl))))
            (pss_one (ps_expr (pe_bm PySem.F.plainAttrs_list PySem.F.slot_list_append PySem.F.type_list_append mt_append (pv 4) (pa_cons (pv 6) pa_nil)))) pss_nil)))
        (pss_one (sv 5 nd (pe_op op_add (pv 5) pe_int)))))
      (pss_one (ps_ret (cb cr_sortedS t.n_sorted (pa_cons (pv 4) pa_nil))))), ?_⟩
    refine ⟨_, rfl, line1, fun F hF => ⟨_, _, rfl, ?_⟩⟩
    refine ⟨fun mm σ H' => ∃ (at_ : Nat) (fl : List Str) (o6 : Option V), σ = [some (.ref m), some (.ref d), some (.str st), some (.int 0), some (.ref F), some (.int at_), o6] ∧ Up K H H' ∧ H' F = some (.lst (fl.map V.str)) ∧ fl.Nodup ∧ (∀ o ∈ fl, o ∈ M.ns ∧ RM M st o) ∧ at_ ≤ fl.length ∧ mm = 8 - at_,
      ⟨_, 0, [st], none, rfl, Up.new hF, upd_same, by simp, fun o ho => by rw [List.mem_singleton.mp ho]; exact ⟨hst, .base (by decide)⟩, Nat.zero_le _, rfl⟩, ?_⟩
    rintro mm σ H' ⟨at_, fl, o6, rfl, U, eF, fnd, fin, hat, rfl⟩
    have flen := len_of_nodup fnd fun o ho => (fin o ho).1
    refine ⟨_, rfl, _, rfl, F, _, rfl, .inl (SqL.of eF), _, _, rfl, rfl, _, rfl, ?_⟩
    rw [List.length_map]
    refine ite2 (fun hlt => ?_) (fun hge => ?_)
    · rw [decide_eq_true_eq] at hlt
      refine ⟨fun σ' H2 => ∃ m', m' < 8 - at_ ∧ _, fun σ' H2 h => h, ?_⟩
      obtain ⟨x, hx⟩ : ∃ x, fl[at_]? = some x := ⟨_, List.getElem?_eq_getElem (by omega)⟩
      obtain ⟨xin, xr⟩ := fin x (List.mem_of_getElem? hx)
      refine ⟨_, rfl, _, rfl, _, rfl, F, _, (at_ : Int), .str x, rfl, rfl, SqL.of eF, atI_nat (by rw [List.getElem?_map, hx]; rfl), m, x, M, rfl, hM.up U, ok, fun H2 nl u2 fnl enl => ⟨nl, rfl, ⟨_, SqL.of enl⟩, ?_⟩⟩
      have eF2 := u2.at eF
      refine for_it walk_names (fun i σ H' => ∃ (fl : List Str) (o6 : Option V), σ = [some (.ref m), some (.ref d), some (.str st), some (.int 0), some (.ref F), some (.int at_), o6] ∧ Up K H H' ∧ H' nl = some (.lst ((nearM M x).map V.str)) ∧ H' F = some (.lst (fl.map V.str)) ∧ fl.Nodup ∧ (∀ o ∈ fl, o ∈ M.ns ∧ RM M st o) ∧ at_ < fl.length ∧ nl ≠ F)
        ⟨fl, _, rfl, U.trans u2, enl, eF2, fnd, fin, by omega, ?_⟩ (fun i σ H' _ h => let ⟨_, _, _, _, e, _⟩ := h; SqL.of e) (fun i y σ H3 H4 hi h hy => ?_) (fun σ H3 h => ?_)
      · rintro rfl
        obtain ⟨ps, z⟩ := fnl _ eF
        cases z
      · obtain ⟨fl, o6, rfl, U3, enl, eF, fnd, fin, hat, nn⟩ := h
        obtain ⟨rfl, o, ho, rfl⟩ := hy
        have hom := List.mem_of_getElem? ho
        have hon : o ∈ M.ns := by
          rcases mem_nearM.mp hom with z | z
          · exact (ok.tin _ z).2.1
          · exact (ok.tin _ z).1
        have flen := len_of_nodup fnd fun o ho => (fin o ho).1
        refine ⟨_, rfl, _, rfl, d, _, rfl, dget_mp (f := fun _ => V.int 0) (.inl (U3.at hd)) hon, _, rfl, _, _, rfl, rfl, true, rfl, _, rfl, _, rfl, F, _, rfl, .inl (SqL.of eF), rfl, flat_strs fl, ?_⟩
        rw [inV_str]
        refine ⟨_, rfl, ?_⟩
        by_cases c : o ∈ fl
        · rw [decide_eq_true c]
          exact ⟨fl, _, rfl, U3, enl, eF, fnd, fin, hat, nn⟩
        · rw [decide_eq_false c]
          refine ⟨_, rfl, .inl ⟨rfl, _, SqL.of eF⟩, _, rfl, F, _, _, rfl, rfl, eF, by rw [List.length_map]; exact line8' (by omega), ⟨fl ++ [o], _, rfl, U3.wr hF eF trivial, (upd_ne nn).trans enl, by rw [upd_same, List.map_append]; rfl, List.nodup_append.mpr ⟨fnd, List.nodup_cons.mpr ⟨by simp, List.nodup_nil⟩, fun a ha b hb z => c (by rw [← List.mem_singleton.mp hb, ← z]; exact ha)⟩, fun y hy => ?_, by rw [List.length_append]; omega, nn⟩⟩
          rcases List.mem_append.mp hy with z | z
          · exact fin y z
          · rw [List.mem_singleton.mp z]
            exact ⟨hon, .step xr hom (by decide)⟩
      · obtain ⟨fl, o6, rfl, U3, enl, eF, fnd, fin, hat, nn⟩ := h
        have flen := len_of_nodup fnd fun o ho => (fin o ho).1
        exact ⟨_, rfl, _, _, rfl, rfl, ⟨8 - (at_ + 1), by omega, at_ + 1, fl, _, rfl, U3, eF, fnd, fin, by omega, rfl⟩⟩
    · refine ⟨_, rfl, F, fl, rfl, SqL.of eF, by omega, fun ys p pm hs hp => q _ p ys (U.add hp) upd_same (fun o ho => fin o (pm.mem_iff.mp ho)) (by rw [pm.length_eq]; omega)⟩
end
end SH
/-! W29 -/
set_option Elab.async false
set_option linter.all false
set_option maxRecDepth 100000
set_option maxHeartbeats 1000000
namespace SH
open PySem PySem.Spec PyProof.Rows L2 LamX
theorem cut1 (xs : List V) : cutV xs (some 1) none = xs.drop 1 := by
  unfold cutV
  rw [HT.sIx_none, show (some (1 : Int)) = some ((1 : Nat) : Int) from rfl, HT.sIx_nat]
  cases xs with
  | nil => rfl
  | cons x r =>
    have : min 1 (x :: r).length = 1 := by rw [List.length_cons]; omega
    rw [this]
    exact List.take_of_length_le (by rw [List.length_drop]; omega)
theorem fm_none {α β : Type} : ∀ l : List α, l.filterMap (fun _ => (none : Option β)) = []
  | [] => rfl
  | _ :: l => by rw [List.filterMap_cons]; exact fm_none l
section
variable {P : Program} {w : World} {K : Frg} {mg : Str → Option Value} {base : Heap}
abbrev nIw : List Str := ["_law_model_here", "_law_value", "_law_near_here", "_law_one", "_law_a", "_law_b"]
def spIw (K : Frg) : Sp := fun vs H Q _ => ∃ (m a : Addr) (M : Md) (way : List Str), vs = [.ref m, .ref a] ∧ MdAt H m M ∧ M.Ok ∧ H a = some (.lst (way.map V.str)) ∧ way ≠ [] ∧ (∀ x ∈ way, x ∈ M.ns) ∧ (∀ (i : Nat) x y, way[i]? = some x → way[i + 1]? = some y → y ∈ nearM M x) ∧ way.Nodup ∧
  ∀ H', Up K H H' → Q (.bl true) H'
theorem sc_Iw : FnScope nIw ["_law_model_here", "_law_value"] (defScope s_law_is_way) := sc_of
theorem c_is_way (t : T K mg) : Cal P w K mg base 2 "_law_is_way" (spIw K) [] := by
  refine cal_of t.d_law_is_way sc_Iw (fun _ _ _ _ _ _ us hl => match us, hl with | [_, _], _ => rfl) (fun vs H Q E h => ?_) (fun f cdv A outer s H vs Q E hr h => ?_)
  · obtain ⟨a, _, _, _, rfl, _⟩ := h
    rfl
  · obtain ⟨m, a, M, way, rfl, hM, ok, ea, hne, hin, hlk, wnd, q⟩ := h
    have nd := sc_Iw.nd
    have hu := hu_of hr
    have h64 := hr.units
    have few := ok.few
    have wlen := len_of_nodup wnd hin
    have asc : ∀ x ∈ way, Ascii x := fun x hx => (ok.nm x (hin x hx)).1.ascii
    have l0 : (0 : Nat) ≤ sizeLine := Nat.zero_le _
    obtain ⟨kvs, dl, dh, lt, lo, em, k4, v1, v2, v3, v4, el, eh, et, eo⟩ := id hM
    refine ⟨_, pss_cons (ps_if (PW.pt (pw_or (pt_not (pt_val (bIsi t.n_isinstance (pa_cons (pv 1) (pa_cons (tyn (n := "list") t.n_list) pa_nil))))) (pw_or (pt_cmpR (op_eqD h64) (pv 1) (pe_lst pa_nil) (nomark _))
          (pw_or1 (pt_cmpR (op_neD h64) (lc1t 3 rfl nd (pi_list (pv 1)) (fun _ _ _ _ _ => pt_cmpR op_notIn_seq (pv 3) (cb (id := "sorted") (call_sortedD rfl) t.n_sorted (pa_cons (pe_dget hu (pv 0) pe_str (fun _ _ => rfl)) pa_nil)) rfl) (fun _ _ _ _ _ => pv 3) (bk nIw s_law_is_way)) (pe_lst pa_nil) (nomark _)))))) (pss_one (ps_ret pe_bl)) pss_nil)
      (pss_cons (ps_setLc (i := 2) (own := [("_law_a", 4), ("_law_b", 5)]) (g := gTup K 2 (gCons (gName 4) (gCons (gName 5) gNil))) (tt := tTest (tOp (rIn K true) (tVar 5) (tCall (spNe K) [] E0 (tCons (tVar 0) (tCons (tVar 4) tNil))))) rfl nd rfl rfl (sw_true rfl rfl rfl (by decide +kernel))
          (pi_zip rfl t.n_zip (pa_cons (pv 1) (pa_cons (pe_slice sl_list (pv 1) (po_some pe_int) po_none) pa_nil))) (bk nIw s_law_is_way)
          (fun _ _ _ _ _ => pg_tup rfl (pgs_cons (pg_name (i := 4) nd rfl (Or.inl rfl)) (pgs_cons (pg_name (i := 5) nd rfl (Or.inl rfl)) pgs_nil)))
          (fun _ _ _ _ _ => pts_one (pt_cmpR op_notIn_seq (pv 5) (pe_c (c_near t) hr (by decide) (pa_cons (pv 0) (pa_cons (pv 4) pa_nil))) rfl)) (fun _ _ _ _ _ => pe_tup (pa_cons (pv 4) (pa_cons (pv 5) pa_nil))))
      (pss_one (ps_ret (pe_and (pe_cmpR (op_eqD h64) (pv 2) (pe_lst pa_nil) (nomark _)) (pe_one (pe_cmpR op_eq (cb cr_lenX t.n_len (pa_cons (ct (cr_setX rfl h64) t.n_set (pa_cons (pv 1) pa_nil)) pa_nil)) (cb call_len_seq t.n_len (pa_cons (pv 1) pa_nil)) (nomark _))))))), ?_⟩
    refine ⟨_, rfl, _, _, _, _, true, rfl, .ty _, .base (.lst ea), kit_ty (by decide +kernel), _, rfl, ?_⟩
    refine ⟨_, rfl, l0, fun e1 he1 => ⟨dS way, .list [], dp_strs (ext_new he1 _ _ ea), .lst (SqL.of upd_same) .nil, shaped_dS asc, shaped_nil, _, rfl, ?_⟩⟩
    rw [eqv_nil]
    have hwe : (way.map PyData.str).isEmpty = false := by cases way with | nil => exact absurd rfl hne | cons _ _ => rfl
    rw [hwe]
    have U1 : Up K H (upd H e1 (.lst [])) := .new he1
    have ea1 := U1.at ea
    refine ⟨_, rfl, a, rfl, ⟨_, SqL.of ea1⟩, fun D hD => lcF (K := K) walk_names hD (fun _ => none) (by omega) (fun H u => SqL.of (u.at ea1)) (fun i n x H2 H' Pn Py hn u hy kn ky => ?_) (fun H2 u2 e2 => ?_)⟩
    · obtain ⟨rfl, n', hn', rfl⟩ := hy
      obtain rfl : n = n' := Option.some.inj (hn.symm.trans hn')
      have hnn := hin n (List.mem_of_getElem? hn)
      have U := U1.trans u
      refine ⟨rfl, _, rfl, _, rfl, m, _, rfl, dgv (U.at em) v1, dl, _, M.ns, rfl, .inl (U.at el), mp_fst, by omega, fun ys p pm hs hp => ⟨p, _, rfl, .inl (SqL.of upd_same), rfl, flat_strs ys, ?_⟩⟩
      rw [inV_str, decide_eq_true (pm.mem_iff.mpr hnn)]
      exact ⟨_, rfl, kn _ (Up.new hp) rfl⟩
    · rw [fm_none] at e2
      have U2 := U1.trans u2
      refine ⟨l0, fun e3 he3 => ⟨.list [], .list [], .lst (SqL.of (ext_new he3 _ _ e2)) .nil, .lst (SqL.of upd_same) .nil, shaped_nil, shaped_nil, _, rfl, ?_⟩⟩
      rw [eqv_nil]
      have U3 := U2.add (o := .lst []) he3
      have ea3 := U3.at ea
      refine ⟨_, rfl, _, rfl, 1, rfl, a, _, rfl, SqL.of ea3, fun sl hsl => ?_⟩
      rw [cut1]
      have U4 := U3.add (o := .lst ((way.map V.str).drop 1)) hsl
      have ea4 := U4.at ea
      have wk : Walk (Itz K a sl) (List.range (way.length - 1)).length (fun H => SqL K H a (way.map V.str) ∧ SqL K H sl ((way.map V.str).drop 1)) (YPair (fun i => (way.map V.str)[i]?) (fun i => ((way.map V.str).drop 1)[i]?)) :=
        walk_zip (by rw [List.length_range, List.length_drop, List.length_map]; omega)
      refine ⟨a, sl, _, _, rfl, SqL.of ea4, SqL.of upd_same, fun F hF => lcF (K := K) wk hF (fun _ => none) (by rw [List.length_range]; omega) (fun H u => ⟨SqL.of (u.at ea4), SqL.of (u.at upd_same)⟩) (fun i j x H5 H' Pn Py hj u hy kn ky => ?_) (fun H5 u5 e5 => ?_)⟩
      · obtain ⟨T, x, y, rfl, hT, rfl, h1, h2⟩ := hy
        have h1 : (way.map V.str)[i]? = some x := h1
        have h2 : ((way.map V.str).drop 1)[i]? = some y := h2
        rw [List.getElem?_map] at h1
        obtain ⟨x0, hx0, rfl⟩ := Option.map_eq_some_iff.mp h1
        rw [List.getElem?_drop, List.getElem?_map, Nat.add_comm 1 i] at h2
        obtain ⟨y0, hy0, rfl⟩ := Option.map_eq_some_iff.mp h2
        have hyn := hlk i x0 y0 hx0 hy0
        have uT : Up K H5 (upd H5 T (.tup [.str x0, .str y0])) := .new hT
        refine ⟨T, _, rfl, SqT.of upd_same, rfl, _, _, rfl, _, _, rfl, rfl, rfl, _, rfl, _, rfl, _, rfl, m, x0, M, rfl, hM.up ((U4.trans u).trans uT), ok, fun H6 nl u6 fnl enl => ⟨nl, _, rfl, .inl (SqL.of enl), rfl, flat_strs _, ?_⟩⟩
        rw [inV_str, decide_eq_true hyn]
        exact ⟨_, rfl, kn _ (uT.trans u6) rfl⟩
      · rw [fm_none] at e5
        have U5 := U4.trans u5
        refine ⟨_, rfl, l0, fun e6 he6 => ⟨.list [], .list [], .lst (SqL.of (ext_new he6 _ _ e5)) .nil, .lst (SqL.of upd_same) .nil, shaped_nil, shaped_nil, true, by rw [eqv_nil]; rfl, ?_⟩⟩
        have U6 := U5.add (o := .lst []) he6
        refine ⟨_, rfl, a, way, rfl, SqL.of (U6.at ea), wnd, by omega, fun S hS => ⟨S, way, rfl, upd_same, by omega, ?_⟩⟩
        have U7 := U6.add (o := SetXO P w S way) hS
        refine ⟨_, rfl, a, _, rfl, .inl (SqL.of (U7.at ea)), rfl, ?_⟩
        rw [List.length_map, decide_eq_true rfl]
        exact q _ U7
end
end SH
/-! W30 -/
set_option Elab.async false
set_option linter.all false
set_option maxRecDepth 100000
set_option maxHeartbeats 1000000
/-! The plain law: the dry land's level is that of the lows; the rim below it holds no outlet. -/
namespace SH
open PySem PySem.Spec PyProof.Rows L2 LamX
theorem isLv_ex (ch : Ch) (val : Str → Int) (st : Str) : ∃ r, IsLv ch val st r := by
  by_cases h : ∃ L, ∃ o ∈ ch.drains, Rch (nbr ch) val L st o
  · obtain ⟨L0, o0, ho0, hr0⟩ := h
    have h0 := hr0.val_st
    have key : ∀ k : Nat, (∃ o ∈ ch.drains, Rch (nbr ch) val (val st + k) st o) → ∃ m : Nat, (∃ o ∈ ch.drains, Rch (nbr ch) val (val st + m) st o) ∧ ∀ j : Nat, (∃ o ∈ ch.drains, Rch (nbr ch) val (val st + j) st o) → m ≤ j := fun k => by
      induction k using Nat.strongRecOn with
      | ind k ih =>
        intro hk
        by_cases c : ∃ j : Nat, j < k ∧ ∃ o ∈ ch.drains, Rch (nbr ch) val (val st + j) st o
        · obtain ⟨j, hj, hp⟩ := c
          exact ih j hj hp
        · exact ⟨k, hk, fun j hj => by
            rcases Nat.lt_or_ge j k with z | z
            · exact absurd ⟨j, z, hj⟩ c
            · exact z⟩
    obtain ⟨m, ⟨o, ho, hr⟩, hmin⟩ := key (L0 - val st).toNat ⟨o0, ho0, by rw [show val st + ((L0 - val st).toNat : Int) = L0 by omega]; exact hr0⟩
    refine ⟨some (val st + m), fun L => ⟨fun ⟨o', ho', hr'⟩ => ⟨_, rfl, ?_⟩, fun ⟨m', e, hm'⟩ => ?_⟩⟩
    · have h1 := hr'.val_st
      have := hmin (L - val st).toNat ⟨o', ho', by rw [show val st + ((L - val st).toNat : Int) = L by omega]; exact hr'⟩
      omega
    · cases e
      exact ⟨o, ho, hr.mono hm'⟩
  · exact ⟨none, fun L => ⟨fun ⟨o, ho, hr⟩ => absurd ⟨L, o, ho, hr⟩ h, fun ⟨m, e, _⟩ => by cases e⟩⟩
theorem LV_is (ch : Ch) (val : Str → Int) (st : Str) : IsLv ch val st (LV ch val st) := by
  obtain ⟨r, h⟩ := isLv_ex ch val st
  rw [← h.eq]; exact h
theorem Rch.val_end {α : Type} [DecidableEq α] {near : α → List α} {val : α → Int} {L : Int} {s p : α} (h : Rch near val L s p) : val p ≤ L := by
  cases h with
  | base h => exact h
  | step _ _ h => exact h
theorem rch_in {ch : Ch} {val : Str → Int} {L : Int} {s p : Str} (hs : s ∈ ch.names) (h : Rch (nbr ch) val L s p) : p ∈ ch.names := by
  cases h with
  | base _ => exact hs
  | step _ h _ => exact nbr_in h
theorem rch_le {ch : Ch} {v1 v2 : Str → Int} {L : Int} {s p : Str} (hs : s ∈ ch.names) (le : ∀ n ∈ ch.names, v2 n ≤ v1 n) (h : Rch (nbr ch) v1 L s p) : Rch (nbr ch) v2 L s p := by
  induction h with
  | base h => exact .base (Int.le_trans (le _ hs) h)
  | step _ h1 h2 ih => exact .step ih h1 (Int.le_trans (le _ (nbr_in h1)) h2)
theorem dry_le {ch : Ch} (ok : ch.Ok) {n : Str} (hn : n ∈ ch.names) : ch.low n ≤ dryH ch n := by
  have g := (ok.rng n hn).2.2
  unfold dryH
  cases e : LV ch ch.low n with
  | none => exact g
  | some l =>
    have h := LV_is ch ch.low n
    rw [e] at h
    have := h.ge
    show ch.low n ≤ (if l < ch.high n then l else ch.high n)
    split <;> omega
theorem dry_lv {ch : Ch} {n o : Str} {L : Int} (ho : o ∈ ch.drains) (h : Rch (nbr ch) ch.low L n o) : dryH ch n ≤ L := by
  obtain ⟨m, e, hm⟩ := (LV_is ch ch.low n L).mp ⟨o, ho, h⟩
  unfold dryH
  rw [e]
  show (if m < ch.high n then m else ch.high n) ≤ L
  split <;> omega
theorem rch_dry {ch : Ch} {n : Str} {L : Int} {p : Str} (h : Rch (nbr ch) ch.low L n p) : ∀ {o : Str}, o ∈ ch.drains → Rch (nbr ch) ch.low L p o → Rch (nbr ch) (dryH ch) L n p := by
  induction h with
  | base h => intro o ho hr; exact .base (dry_lv ho hr)
  | @step p q hp h1 h2 ih =>
    intro o ho hr
    have hpo : Rch (nbr ch) ch.low L p o := Rch.trans (.step (.base hp.val_end) h1 h2) hr
    exact .step (ih ho hpo) h1 (dry_lv ho hr)
/-- the dry land's level is that of the lows -/
theorem lv_dry {ch : Ch} (ok : ch.Ok) {n : Str} (hn : n ∈ ch.names) : LV ch (dryH ch) n = LV ch ch.low n := by
  symm
  refine IsLv.eq fun L => ?_
  rw [← LV_is ch ch.low n L]
  constructor
  · rintro ⟨o, ho, h⟩
    exact ⟨o, ho, rch_le hn (fun m hm => dry_le ok hm) h⟩
  · rintro ⟨o, ho, h⟩
    exact ⟨o, ho, rch_dry h ho (.base h.val_end)⟩
/-- what escape tells of the level -/
theorem esc_lv {ch : Ch} {n : Str} {r : Option (List Str)} (h : IsEsc ch n r) : (r = none ∧ LV ch ch.low n = none) ∨ ∃ o l way, r = some (o :: way).reverse ∧ LV ch ch.low n = some l ∧ o ∈ ch.drains ∧ ∃ bef, Way (nbr ch) ch.low n bef o l way := by
  obtain ⟨f, run, h⟩ := h
  have fd := run.found
  rcases h with ⟨rfl, h⟩ | ⟨o, l, way, h1, h2, h3, h4, rfl⟩
  · refine .inl ⟨rfl, (IsLv.eq fun L => ⟨fun ⟨o, ho, hr⟩ => ?_, fun ⟨m, e, _⟩ => by cases e⟩).symm⟩
    obtain ⟨l, e, _⟩ := (fd.lev o L).mp hr
    rw [h o ho] at e; cases e
  · obtain ⟨w', wy⟩ := fd.way o l h2
    have := BC.uniq h4 wy.bc
    subst this
    refine .inr ⟨o, l, way, rfl, (IsLv.eq fun L => ⟨fun ⟨o', ho', hr⟩ => ?_, fun ⟨m, e, hm⟩ => ?_⟩).symm, h1, f.bef, wy⟩
    · obtain ⟨l', e, hl⟩ := (fd.lev o' L).mp hr
      refine ⟨l, rfl, ?_⟩
      rcases h3 o' ho' l' e with z | z
      · cases z; exact hl
      · rcases z with z | ⟨z, _⟩
        · have z : l < l' := z
          omega
        · have z : l = l' := z
          omega
    · cases e
      exact ⟨o, h1, (fd.lev o L).mpr ⟨l, h2, hm⟩⟩
end SH
/-! W31 -/
set_option Elab.async false
set_option linter.all false
set_option maxRecDepth 100000
set_option maxHeartbeats 1000000
namespace SH
open PySem PySem.Spec PyProof.Rows L2 LamX
abbrev CM (ch : Ch) (M : Md) : Prop := ChOf ch M.ns M.lo M.hi M.ts M.os
theorem ChOf.uniq {ch ch' : Ch} {ns : List Str} {lo hi : Str → Int} {ts : List Pr} {os : List Str} (h : ChOf ch ns lo hi ts os) (k : ChOf ch' ns lo hi ts os) : ch = ch' := by
  have e1 : ch.names = ch'.names := sorted_uniq (fun a b h => slt_asymm h) (h.nm.trans k.nm.symm) h.ok.srt k.ok.srt
  have e2 : ch.pairs = ch'.pairs := sorted_uniq ppl_asymm ((List.perm_ext_iff_of_nodup h.ok.pnd k.ok.pnd).mpr fun p => by rw [h.pr, k.pr]) h.ok.psrt k.ok.psrt
  have e3 : ch.drains = ch'.drains := sorted_uniq (fun a b h => slt_asymm h) (h.dr.trans k.dr.symm) h.ok.dsrt k.ok.dsrt
  obtain ⟨n1, l1, h1, p1, d1⟩ := ch
  obtain ⟨n2, l2, h2, p2, d2⟩ := ch'
  have e4 : l1 = l2 := h.lo.trans k.lo.symm
  have e5 : h1 = h2 := h.hi.trans k.hi.symm
  cases e1; cases e2; cases e3; cases e4; cases e5
  rfl
theorem near_iff {ch : Ch} {M : Md} (c : CM ch M) (ok : M.Ok) {n o : Str} : o ∈ nbr ch n ↔ o ∈ nearM M n := by
  rw [mem_nbr c.ok, mem_nearM, c.pr, c.pr, List.mem_map, List.mem_map]
  constructor
  · rintro (⟨p, hp, e⟩ | ⟨p, hp, e⟩)
    · rcases mm_cases (ok.tin p hp).2.2 with ⟨e', _⟩ | ⟨e', _⟩
      · rw [e'] at e; rw [e] at hp; exact .inl hp
      · rw [e'] at e; cases e; exact .inr hp
    · rcases mm_cases (ok.tin p hp).2.2 with ⟨e', _⟩ | ⟨e', _⟩
      · rw [e'] at e; rw [e] at hp; exact .inr hp
      · rw [e'] at e; cases e; exact .inl hp
  · rintro (h | h)
    · rcases mm_cases (ok.tin _ h).2.2 with ⟨e, _⟩ | ⟨e, _⟩
      · exact .inl ⟨_, h, e⟩
      · exact .inr ⟨_, h, e⟩
    · rcases mm_cases (ok.tin _ h).2.2 with ⟨e, _⟩ | ⟨e, _⟩
      · exact .inr ⟨_, h, e⟩
      · exact .inl ⟨_, h, e⟩
theorem rm_rch {ch : Ch} {M : Md} (c : CM ch M) (ok : M.Ok) {n o : Str} (h : RM M n o) : ∃ L, Rch (nbr ch) ch.low L n o := by
  induction h with
  | base _ => exact ⟨ch.low n, .base (Int.le_refl _)⟩
  | @step p q _ h1 _ ih =>
    obtain ⟨L, hr⟩ := ih
    refine ⟨max L (ch.low q), .step (hr.mono (by omega)) ((near_iff c ok).mpr h1) (by omega)⟩
theorem way_ok {ch : Ch} {bef : Str → Option (Option Str)} {n o : Str} {l : Int} {way : List Str} (hn : n ∈ ch.names) (w : Way (nbr ch) ch.low n bef o l way) :
    (∀ x ∈ (o :: way).reverse, x ∈ ch.names) ∧ (∀ (i : Nat) x y, (o :: way).reverse[i]? = some x → (o :: way).reverse[i + 1]? = some y → y ∈ nbr ch x) ∧ (o :: way).reverse.Nodup ∧ (o :: way).reverse[0]? = some n := by
  have len : (o :: way).reverse.length = way.length + 1 := by rw [List.length_reverse, List.length_cons]
  have get : ∀ i, i < way.length + 1 → (o :: way).reverse[i]? = (o :: way)[way.length - i]? := fun i hi => by
    rw [List.getElem?_reverse (by rw [List.length_cons]; exact hi), List.length_cons]
    congr 1
  refine ⟨fun x hx => ?_, fun i x y hx hy => ?_, (List.reverse_perm _).nodup_iff.mpr w.nd, ?_⟩
  · rw [List.mem_reverse] at hx
    obtain ⟨i, hi⟩ := List.mem_iff_getElem?.mp hx
    cases hq : (o :: way)[i + 1]? with
    | some q => exact nbr_in (w.lk i x q hi hq)
    | none =>
      have h1 := (List.getElem?_eq_some_iff.mp hi).1
      have h2 := List.getElem?_eq_none_iff.mp hq
      have : (o :: way).getLast? = some x := by
        rw [List.getLast?_eq_getElem?, show (o :: way).length - 1 = i by omega]; exact hi
      rw [w.last] at this
      rw [← Option.some.inj this]; exact hn
  · have h2 := (List.getElem?_eq_some_iff.mp hy).1
    rw [len] at h2
    rw [get i (by omega)] at hx
    rw [get (i + 1) h2] at hy
    exact w.lk (way.length - (i + 1)) y x hy (by rw [show way.length - (i + 1) + 1 = way.length - i by omega]; exact hx)
  · rw [get 0 (by omega), Nat.sub_zero, ← w.last, List.getLast?_eq_getElem?, List.length_cons]
    rfl
end SH
/-! W32 -/
set_option Elab.async false
set_option linter.all false
set_option maxRecDepth 100000
set_option maxHeartbeats 1500000
namespace SH
open PySem PySem.Spec PyProof.Rows L2 LamX
section
variable {P : Program} {w : World} {K : Frg} {mg : Str → Option Value} {base : Heap}
abbrev nEr : List Str := ["_law_model_here", "_law_chart_here", "_law_dry", "_law_name", "_law_way", "_law_level", "_law_reach", "_law_inside", "_law_one"]
def spER (K : Frg) : Sp := fun vs H Q _ => ∃ (m c dr c' : Addr) (n : Str) (M : Md) (ch : Ch), vs = [.ref m, .ref c, .ref dr, .str n] ∧ MdAt H m M ∧ M.Ok ∧ ChartAt K H c ch ∧ CM ch M ∧ LandC K H dr c' ch (dryH ch) ∧ n ∈ M.ns ∧ Tabs (TT K) H ∧ ∀ H', Up K H H' → Q (.bl true) H'
theorem sc_ER : FnScope nEr ["_law_model_here", "_law_chart_here", "_law_dry", "_law_name"] (defScope s_law_escape_right) := sc_of
theorem c_escape_right (t3 : T3 K mg) (b3 : TBs K mg base) : Cal P w K mg base 6 "_law_escape_right" (spER K) [] := by
  have t := t3.z.t
  refine cal_of t.d_law_escape_right sc_ER (fun _ _ _ _ _ _ us hl => match us, hl with | [_, _, _, _], _ => rfl) (fun vs H Q E h => ?_) (fun f cdv A outer s H vs Q E hr h => ?_)
  · obtain ⟨a, _, _, _, _, _, _, rfl, _⟩ := h
    rfl
  · obtain ⟨m, c, dr, c', n, M, ch, rfl, hM, ok, hc, cm, hl, hn, tab, q⟩ := h
    have nd := sc_ER.nd
    have hu := hu_of hr
    have h64 := hr.units
    have few := ok.few
    have hnc : n ∈ ch.names := cm.nm.mem_iff.mpr hn
    refine ⟨_, pss_cons (ps_par (i := 4) (j := 5) rfl nd rfl rfl (by decide) rfl rfl (pa_cons (pe_c (c_escape t3 b3) hr (by decide) (pa_cons (pv 1) (pa_cons (pv 3) pa_nil))) (pa_cons (pe_c (c_water_level t3 b3) hr (by decide) (pa_cons (pv 2) (pa_cons (pv 3) pa_nil))) pa_nil)) (by with_unfolding_all rfl))
      (pss_cons (ps_if (pt_cmp (pc_isN (pv 5)))
        (pss_cons (sv 6 nd (pe_c (c_flood t) hr (by decide) (pa_cons (pv 0) (pa_cons (ct (call_dictP rfl) t.n_dict (pa_cons (pe_lock (lc1 8 rfl nd (pi_keys (pe_dget hu (pv 0) pe_str (fun _ _ => rfl))) (fun _ _ _ _ _ => pe_tup (pa_cons (pv 8) (pa_cons pe_int pa_nil))) (bk nEr s_law_escape_right))) pa_nil)) (pa_cons (pv 3) (pa_cons pe_int pa_nil))))))
        (pss_one (ps_ret (pe_and (pe_cmp (pc_isN (pv 4))) (pe_one (pe_cmpR (op_eqD h64) (lc1t 8 rfl nd (pi_list (pv 6)) (fun _ _ _ _ _ => pt_cmpR op_in_seq (pv 8) (pe_dget hu (pv 0) pe_str (fun _ _ => rfl)) rfl) (fun _ _ _ _ _ => pv 8) (bk nEr s_law_escape_right)) (pe_lst pa_nil) (nomark _))))))) pss_nil)
      (pss_cons (ps_if (PW.pt (pw_or (pt_not (pt_val (pe_c (c_is_way t) hr (by decide) (pa_cons (pv 0) (pa_cons (pv 4) pa_nil))))) (pw_or (pt_cmpR op_ne (pe_ix ix_list (pv 4) pe_int (fun _ _ => rfl)) (pv 3) (nomark _)) (pw_or1 (pt_cmpR op_notIn_seq (pe_ix ix_list (pv 4) (pe_un un_neg pe_int) (fun _ _ => rfl)) (pe_dget hu (pv 0) pe_str (fun _ _ => rfl)) rfl))))) (pss_one (ps_ret pe_bl)) pss_nil)
      (pss_cons (sv 7 nd (pe_c (c_rim t3 b3) hr (by decide) (pa_cons (pv 1) (pa_cons (pv 3) (pa_cons (pv 5) pa_nil)))))
      (pss_one (ps_ret (pe_and (pe_cmpR op_eq (cb (cr_max rfl) t.n_max (pa_cons (lc1 8 rfl nd (pi_list (pv 4)) (fun _ _ _ _ _ => pe_dget hu (pe_dget hu (pv 0) pe_str (fun _ _ => rfl)) (pv 8) (fun _ _ => rfl)) (bk nEr s_law_escape_right)) pa_nil)) (pv 5) (nomark _))
        (pe_one (pe_cmpR (op_eqD h64) (lc1t 8 rfl nd (pi_list (pv 7)) (fun _ _ _ _ _ => pt_cmpR op_in_seq (pv 8) (pe_dget hu (pv 0) pe_str (fun _ _ => rfl)) rfl) (fun _ _ _ _ _ => pv 8) (bk nEr s_law_escape_right)) (pe_lst pa_nil) (nomark _))))))))), ?_⟩
    have l0 : (0 : Nat) ≤ sizeLine := Nat.zero_le _
    have inos : ∀ {o : Str}, o ∈ M.os → o ∈ ch.drains := fun h => cm.dr.mem_iff.mpr h
    refine ⟨_, rfl, _, rfl, c, n, ch, rfl, hc, cm.ok, hnc, tab, fun H1 u1 ie => ?_, fun H1 wa way u1 fw ew ie => ?_⟩
    · refine ⟨_, rfl, _, rfl, dr, c', n, ch, dryH ch, rfl, hl.up u1, cm.ok, hnc, u1.tabs tab, fun H2 u2 il => ⟨_, _, rfl, ?_⟩⟩
      have hlow : LV ch ch.low n = none := by
        rcases esc_lv ie with ⟨_, h⟩ | ⟨_, _, _, e, _⟩
        · exact h
        · cases e
      have hlv : LV ch (dryH ch) n = none := by rw [lv_dry cm.ok hnc]; exact hlow
      rw [hlv]
      have U2 := u1.trans u2
      obtain ⟨kvs, dl, dh, lt, lo, em, k4, v1, v2, v3, v4, el, eh, et, eo⟩ := id (hM.up U2)
      have nmd : dl ≠ m := fun z => by
        rw [z, em] at el
        have : kvs = mp M.ns fun n => .int (M.lo n) := HO.dK.inj (Option.some.inj el)
        have := this ▸ v3
        rw [valV_mp] at this
        split at this <;> cases this
      refine ⟨_, rfl, _, rfl, _, rfl, dl, _, el, trivial, fun od => ⟨_, rfl, m, _, rfl, dgv ((upd_ne (Ne.symm nmd)).trans em) v1, dl, od, rfl, .inl ⟨_, upd_same, fun D hD => lcR (K := K) walk_mp hD (fun _ => true) (fun o y H => ∃ T, y = .ref T ∧ H T = some (.tup [.str o, .int 0])) (by omega) (fun H u => u.at upd_same)
        (fun z y H H' st ⟨T, e, h1⟩ => ⟨T, e, st _ _ h1 trivial (fun xs c => nomatch c)⟩) (fun i o x H3 H' Pn Py ho u3 hy kn ky => ?_) (fun H3 ys u3 e3 r3 => ?_)⟩⟩⟩
      · obtain ⟨rfl, o', ho', rfl⟩ := hy
        obtain rfl : o = o' := Option.some.inj (ho.symm.trans ho')
        exact ⟨rfl, _, rfl, line2, fun tp htp => ky _ _ (Up.new htp) rfl ⟨tp, rfl, upd_same⟩⟩
      · refine ⟨u3.at upd_same, ?_⟩
        have U3 := Up.lock el trivial u3
        rw [show M.ns.filter (fun _ => true) = M.ns from List.filter_eq_self.mpr fun _ _ => rfl] at r3
        obtain ⟨fv, rfl, hf⟩ := paired_fn r3 ok.nd
        obtain ⟨al, hal⟩ := pick_al (f := fv) (p := fun o T => H3 T = some (.tup [.str o, .int 0])) hf
        have lkd : ∀ (x : Addr) (u : HO), H3 x = some u → (∀ od z, u ≠ .frz od z) → upd H3 dl (.dK (mp M.ns fun n => .int (M.lo n))) x = some u := fun x u e nn => by
          rw [upd_ne]
          · exact e
          · rintro rfl
            rw [u3.at upd_same] at e
            exact nn _ _ (Option.some.inj e).symm
        refine ⟨D, M.ns.map al, mp M.ns fun _ => .int 0, rfl, SqL.of ?_, paired_maps fun o ho => SqT.of (lkd _ _ (hal o ho).2 (fun _ _ z => nomatch z)), fun p hp => ?_⟩
        · rw [lkd _ _ e3 (fun _ _ z => nomatch z)]
          congr 2
          rw [List.map_map]
          exact List.map_congr_left fun o ho => (hal o ho).1
        · rw [mergeK_nil ok.nd]
          have U4 := (U2.trans U3).add (o := .dK (mp M.ns fun _ => .int 0)) hp
          refine ⟨_, rfl, m, p, n, M, rfl, hM.up U4, ok, upd_same, hn, fun H5 ra rs u5 er hrs rl => ?_⟩
          have U5 := U4.trans u5
          obtain ⟨kvs, dl, dh, lt, lo, em, k4, v1, v2, v3, v4, el, eh, et, eo⟩ := id (hM.up U5)
          refine ⟨_, rfl, true, rfl, ?_⟩
          refine ⟨_, rfl, ra, rfl, ⟨_, SqL.of er⟩, fun F hF => lcF (K := K) walk_names hF (fun _ => none) (by omega) (fun H u => SqL.of (u.at er)) (fun i o x H6 H' Pn Py ho u6 hy kn ky => ?_) (fun H6 u6 e6 => ?_)⟩
          · obtain ⟨rfl, o', ho', rfl⟩ := hy
            obtain rfl : o = o' := Option.some.inj (ho.symm.trans ho')
            refine ⟨rfl, _, rfl, _, rfl, m, _, rfl, dgv (u6.at em) v4, lo, _, rfl, .inl (SqL.of (u6.at eo)), rfl, flat_strs _, ?_⟩
            have hno : o ∉ M.os := fun z => by
              obtain ⟨L, hr2⟩ := rm_rch cm ok (hrs o (List.mem_of_getElem? ho)).2
              obtain ⟨m', e, _⟩ := (LV_is ch ch.low n L).mp ⟨o, inos z, hr2⟩
              rw [hlow] at e; cases e
            rw [inV_str, decide_eq_false hno]
            exact ⟨_, rfl, kn _ Up.rfl' rfl⟩
          · rw [fm_none] at e6
            refine ⟨l0, fun e7 he7 => ⟨.list [], .list [], .lst (SqL.of (ext_new he7 _ _ e6)) .nil, .lst (SqL.of upd_same) .nil, shaped_nil, shaped_nil, ?_⟩⟩
            rw [eqv_nil]
            exact q _ ((U5.trans u6).add he7)
    · refine ⟨_, rfl, _, rfl, dr, c', n, ch, dryH ch, rfl, hl.up u1, cm.ok, hnc, u1.tabs tab, fun H2 u2 il => ⟨_, _, rfl, ?_⟩⟩
      obtain ⟨o, l, wy, rfl, hlow, hod, bef, W⟩ : ∃ o l wy, way = (o :: wy).reverse ∧ LV ch ch.low n = some l ∧ o ∈ ch.drains ∧ ∃ bef, Way (nbr ch) ch.low n bef o l wy := by
        rcases esc_lv ie with ⟨e, _⟩ | ⟨o, l, wy, e, h1, h2, h3⟩
        · cases e
        · exact ⟨o, l, wy, Option.some.inj e, h1, h2, h3⟩
      have hlv : LV ch (dryH ch) n = some l := by rw [lv_dry cm.ok hnc]; exact hlow
      rw [hlv]
      have U2 := u1.trans u2
      obtain ⟨w1, w2, w3, w4⟩ := way_ok hnc W
      have win : ∀ x ∈ (o :: wy).reverse, x ∈ M.ns := fun x hx => cm.nm.mem_iff.mp (w1 x hx)
      have ew2 := u2.at ew
      have wlen := len_of_nodup w3 win
      have ho : o ∈ M.os := cm.dr.mem_iff.mp hod
      refine ⟨_, rfl, _, rfl, ?_⟩
      refine ⟨_, rfl, _, rfl, m, wa, M, _, rfl, hM.up U2, ok, ew2, by simp, win, fun i x y h1 h2 => (near_iff cm ok).mp (w2 i x y h1 h2), w3, fun H3 u3 => ⟨_, rfl, ?_⟩⟩
      have U3 := U2.trans u3
      have ew3 := u3.at ew2
      obtain ⟨kvs, dl, dh, lt, lo, em, k4, v1, v2, v3, v4, el, eh, et, eo⟩ := id (hM.up U3)
      refine ⟨_, rfl, wa, _, ((0 : Nat) : Int), .str n, rfl, rfl, SqL.of ew3, atI_nat (by rw [List.getElem?_map, w4]; rfl), _, rfl, rfl, false, ?_, ?_⟩
      · rw [decide_eq_true rfl]; rfl
      refine ⟨_, rfl, _, rfl, wa, _, -1, .str o, rfl, rfl, SqL.of ew3, by rw [List.reverse_cons, List.map_append]; exact atI_last _ _, _, rfl, m, _, rfl, dgv em v4, lo, _, rfl, .inl (SqL.of eo), rfl, flat_strs _, ?_⟩
      rw [inV_str, decide_eq_true ho]
      refine ⟨_, rfl, ?_⟩
      have gl : GoodH l := by
        obtain ⟨y, hy, e⟩ := W.at_
        rw [← e]
        exact (cm.ok.rng y (w1 y (List.mem_reverse.mpr hy))).1
      refine ⟨_, rfl, _, rfl, _, rfl, c, n, ch, l, rfl, hc.up U3, cm.ok, hnc, gl, U3.tabs tab, fun H4 ra os u4 er hos ol => ?_⟩
      have U4 := U3.trans u4
      obtain ⟨kvs, dl, dh, lt, lo, em, k4, v1, v2, v3, v4, el, eh, et, eo⟩ := id (hM.up U4)
      have ew4 := u4.at ew3
      refine ⟨_, rfl, wa, rfl, ⟨_, SqL.of ew4⟩, fun D hD => lcF (K := K) walk_names hD (fun x => some (.int (M.lo x))) (by omega) (fun H u => SqL.of (u.at ew4)) (fun i x v H5 H' Pn Py hx u5 hy kn ky => ?_) (fun H5 u5 e5 => ?_)⟩
      · obtain ⟨rfl, x', hx', rfl⟩ := hy
        obtain rfl : x = x' := Option.some.inj (hx.symm.trans hx')
        exact ⟨rfl, _, rfl, m, _, rfl, dgv (u5.at em) v1, _, rfl, dl, _, rfl, dget_mp (f := fun n => V.int (M.lo n)) (.inl (u5.at el)) (win x (List.mem_of_getElem? hx)), ky _ _ Up.rfl' rfl⟩
      · rw [fm_some] at e5
        refine ⟨D, ((o :: wy).reverse).map M.lo, rfl, SqL.of (by rw [e5, List.map_map]; rfl), by rw [List.length_map, List.length_reverse, List.length_cons]; omega, fun mm h1 h2 => ⟨_, rfl, rfl, true, ?_, ?_⟩⟩
        · have e1 : mm = l := by
            obtain ⟨x, hx, rfl⟩ := List.mem_map.mp h1
            have a1 := W.le x (List.mem_reverse.mp hx)
            obtain ⟨y, hy, e⟩ := W.at_
            have a2 := h2 (M.lo y) (List.mem_map_of_mem (List.mem_reverse.mpr hy))
            rw [cm.lo] at a1 e
            omega
          rw [e1]
          exact congrArg V.bl (decide_eq_true rfl)
        · have U5 := U4.trans u5
          have er5 := u5.at er
          refine ⟨_, rfl, ra, rfl, ⟨_, SqL.of er5⟩, fun F hF => lcF (K := K) walk_names hF (fun _ => none) (by omega) (fun H u => SqL.of (u.at er5)) (fun i x v H6 H' Pn Py hx u6 hy kn ky => ?_) (fun H6 u6 e6 => ?_)⟩
          · obtain ⟨rfl, x', hx', rfl⟩ := hy
            obtain rfl : x = x' := Option.some.inj (hx.symm.trans hx')
            refine ⟨rfl, _, rfl, _, rfl, m, _, rfl, dgv (u6.at (u5.at em)) v4, lo, _, rfl, .inl (SqL.of (u6.at (u5.at eo))), rfl, flat_strs _, ?_⟩
            have hno : x ∉ M.os := fun z => by
              obtain ⟨L, hL, hr2⟩ := hos x (List.mem_of_getElem? hx)
              obtain ⟨m', e, hm'⟩ := (LV_is ch ch.low n L).mp ⟨x, inos z, hr2⟩
              rw [hlow] at e; cases e; omega
            rw [inV_str, decide_eq_false hno]
            exact ⟨_, rfl, kn _ Up.rfl' rfl⟩
          · rw [fm_none] at e6
            refine ⟨l0, fun e7 he7 => ⟨.list [], .list [], .lst (SqL.of (ext_new he7 _ _ e6)) .nil, .lst (SqL.of upd_same) .nil, shaped_nil, shaped_nil, ?_⟩⟩
            rw [eqv_nil]
            exact q _ ((U5.trans u6).add he7)
end
end SH
/-! W33 -/
set_option Elab.async false
set_option linter.all false
set_option maxRecDepth 100000
set_option maxHeartbeats 1000000
/-! What repr tells of a list of names: short, ASCII. -/
namespace SH
open PySem PySem.Spec PyProof.Rows L2 LamX
theorem reprChar_low : ∀ d : Fin 26, Builtin.Str.reprChar 39 (97 + d.1) = [97 + d.1] := by decide +kernel
theorem foldl_repr : ∀ (l : List Nat) (acc : Array Nat), (∀ c ∈ l, 97 ≤ c ∧ c ≤ 122) → (l.foldl (fun out c => out ++ (Builtin.Str.reprChar 39 c).toArray) acc).toList = acc.toList ++ l
  | [], acc, _ => by simp
  | c :: l, acc, h => by
    have hc := h c List.mem_cons_self
    have e := reprChar_low ⟨c - 97, by omega⟩
    rw [show 97 + (c - 97) = c by omega] at e
    rw [List.foldl_cons, e, foldl_repr l _ fun d hd => h d (List.mem_cons_of_mem _ hd)]
    simp
theorem repr_good {x : Str} (h : GoodN x) : (reprText x).cps.toList = 39 :: x.cps.toList ++ [39] := by
  have q : reprQuote x = 39 := by
    unfold reprQuote
    have : x.cps.contains 39 = false := by
      cases hh : x.cps.contains 39 with
      | false => rfl
      | true =>
        have hm := Array.mem_of_contains_eq_true hh
        have := h.2.2 39 (Array.mem_toList_iff.mpr hm)
        omega
    rw [this]; rfl
  unfold reprText
  rw [q, ← Array.foldl_toList]
  show (Array.push _ 39).toList = _
  rw [Array.toList_push, foldl_repr _ _ h.2.2]
  rfl
theorem ascii_app {a b : Str} (h : Ascii a) (k : Ascii b) : Ascii (a ++ b) := fun c hc => by
  have : (a ++ b).cps.toList = a.cps.toList ++ b.cps.toList := by show (a.cps ++ b.cps).toList = _; simp
  rw [this] at hc
  rcases List.mem_append.mp hc with z | z
  · exact h c z
  · exact k c z
theorem len_app (a b : Str) : (a ++ b).length = a.length + b.length := by show (a.cps ++ b.cps).size = _; rw [Array.size_append]; rfl
theorem textFrom_ok {m : Nat} : ∀ (ts : List Str) (k : Nat) (acc : Str), Ascii acc → (∀ t ∈ ts, Ascii t ∧ t.length ≤ m) → Ascii (textFrom k acc ts) ∧ (textFrom k acc ts).length ≤ acc.length + ts.length * (m + 2)
  | [], _, acc, h, _ => ⟨h, by show acc.length ≤ acc.length + 0 * _; omega⟩
  | t :: ts, k, acc, h, ht => by
    obtain ⟨h1, h2⟩ := ht t List.mem_cons_self
    have hs : Ascii ((if k > 0 then ", " else "" : String) : Str) ∧ ((if k > 0 then ", " else "" : String) : Str).length ≤ 2 := by
      by_cases c : k > 0
      · rw [if_pos c]; exact ⟨by unfold Ascii; decide, by decide⟩
      · rw [if_neg c]; exact ⟨by unfold Ascii; decide, by decide⟩
    obtain ⟨r1, r2⟩ := textFrom_ok ts (k + 1) (acc ++ (if k > 0 then ", " else "" : String) ++ t) (ascii_app (ascii_app h hs.1) h1) fun u hu => ht u (List.mem_cons_of_mem _ hu)
    refine ⟨r1, ?_⟩
    show (textFrom (k + 1) (acc ++ (if k > 0 then ", " else "" : String) ++ t) ts).length ≤ _
    rw [len_app, len_app] at r2
    rw [List.length_cons, Nat.succ_mul]
    omega
theorem shL_ok {ks : List Str} (few : ks.length ≤ 8) (h : ∀ x ∈ ks, GoodN x) : Ascii (shL ks) ∧ (shL ks).length ≤ 200 := by
  have e : shL ks = listText (ks.map reprText) := by
    show (PyData.list (ks.map PyData.str)).shown = _
    simp only [PyData.shown, PyData.shownAll_strs]
  rw [e]
  unfold listText
  obtain ⟨h1, h2⟩ := textFrom_ok (m := 10) (ks.map reprText) 0 "[" (by unfold Ascii; decide) fun t ht => by
    obtain ⟨x, hx, rfl⟩ := List.mem_map.mp ht
    have g := h x hx
    have r := repr_good g
    refine ⟨fun c hc => ?_, ?_⟩
    · rw [r] at hc
      rcases List.mem_append.mp hc with z | z
      · rcases List.mem_cons.mp z with z | z
        · omega
        · have := g.2.2 c z; omega
      · rw [List.mem_singleton.mp z]; decide
    · have : (reprText x).length = (reprText x).cps.toList.length := by rw [Array.length_toList]; rfl
      rw [this, r, List.length_append, List.length_cons, List.length_singleton, Array.length_toList]
      have := g.2.1
      show x.cps.size + 1 + 1 ≤ 10
      have : x.cps.size ≤ 8 := g.2.1
      omega
  refine ⟨ascii_app h1 (by unfold Ascii; decide), ?_⟩
  rw [len_app]
  rw [List.length_map] at h2
  have : ("]" : Str).length = 1 := by decide
  have : ("[" : Str).length = 1 := by decide
  omega
end SH
/-! W34 -/
set_option Elab.async false
set_option linter.all false
set_option maxRecDepth 100000
set_option maxHeartbeats 800000
namespace SH
open PySem PySem.Spec PyProof.Rows L2 LamX
section
variable {P : Program} {w : World} {K : Frg} {mg : Str → Option Value} {base : Heap}
abbrev nEs2 : List Str := ["_law_model_here", "_law_chart_here", "_law_names_here", "_law_told", "_law_name", "_law_way", "_law_dry"]
def spEsR (K : Frg) : Sp := fun vs H Q _ => ∃ (m c : Addr) (M : Md) (ch : Ch), vs = [.ref m, .ref c] ∧ MdAt H m M ∧ M.Ok ∧ ChartAt K H c ch ∧ CM ch M ∧ Tabs (TT K) H ∧ ∀ H', Up K H H' → Q (.bl true) H'
def tellX : Option (List Str) → Str
  | none => "None"
  | some ks => shL ks
def TellsOk (ch : Ch) (l : List Str) (i : Nat) (ts : List Str) : Prop := ts.length = i ∧ ∀ (j : Nat) (n t : Str), l[j]? = some n → ts[j]? = some t → ∃ r, IsEsc ch n r ∧ t = tellX r
theorem TellsOk.snoc {ch : Ch} {l ts : List Str} {i : Nat} {n : Str} {r : Option (List Str)} (h : TellsOk ch l i ts) (hn : l[i]? = some n) (e : IsEsc ch n r) : TellsOk ch l (i + 1) (ts ++ [tellX r]) := by
  obtain ⟨rfl, h2⟩ := h
  refine ⟨by simp, fun j n' t hj ht => ?_⟩
  by_cases c : j < ts.length
  · rw [List.getElem?_append_left c] at ht
    exact h2 j n' t hj ht
  · rw [List.getElem?_append_right (by omega)] at ht
    have hz : j = ts.length := by
      have := (List.getElem?_eq_some_iff.mp ht).1
      rw [List.length_singleton] at this; omega
    subst hz
    rw [Nat.sub_self] at ht
    obtain rfl : n = n' := Option.some.inj (hn.symm.trans hj)
    exact ⟨r, e, (Option.some.inj ht).symm⟩
theorem TellsOk.halves {ch : Ch} {ys ts : List Str} (h : TellsOk ch (ys ++ ys) (ys ++ ys).length ts) : ts.take ys.length = ts.drop ys.length := by
  obtain ⟨hl, h2⟩ := h
  rw [List.length_append] at hl
  refine List.ext_getElem (by rw [List.length_take, List.length_drop]; omega) fun j h3 h4 => ?_
  rw [List.length_take] at h3
  rw [List.getElem_take, List.getElem_drop]
  have hj : j < ys.length := by omega
  obtain ⟨r, e, e2⟩ := h2 j ys[j] ts[j] (by rw [List.getElem?_append_left hj]; exact List.getElem?_eq_getElem hj) (List.getElem?_eq_getElem (by omega))
  obtain ⟨r', e', e2'⟩ := h2 (ys.length + j) ys[j] ts[ys.length + j] (by rw [List.getElem?_append_right (by omega), Nat.add_sub_cancel_left]; exact List.getElem?_eq_getElem hj) (List.getElem?_eq_getElem (by omega))
  rw [e2, e2', e.uniq e']
theorem esc_good {ch : Ch} {M : Md} {n : Str} {way : List Str} (cm : CM ch M) (ok : M.Ok) (hnc : n ∈ ch.names) (ie : IsEsc ch n (some way)) : way.length ≤ 8 ∧ ∀ x ∈ way, GoodN x := by
  obtain ⟨o, l, wy, rfl, hlow, hod, bef, W⟩ : ∃ o l wy, way = (o :: wy).reverse ∧ LV ch ch.low n = some l ∧ o ∈ ch.drains ∧ ∃ bef, Way (nbr ch) ch.low n bef o l wy := by
    rcases esc_lv ie with ⟨e, _⟩ | ⟨o, l, wy, e, h1, h2, h3⟩
    · cases e
    · exact ⟨o, l, wy, Option.some.inj e, h1, h2, h3⟩
  obtain ⟨w1, w2, w3, w4⟩ := way_ok hnc W
  have win : ∀ x ∈ (o :: wy).reverse, x ∈ M.ns := fun x hx => cm.nm.mem_iff.mp (w1 x hx)
  exact ⟨Nat.le_trans (len_of_nodup w3 win) ok.few, fun x hx => (ok.nm x (win x hx)).1⟩
theorem sc_EsR : FnScope nEs2 ["_law_model_here", "_law_chart_here"] (defScope s_law_escapes_right) := sc_of
theorem c_escapes_right (t3 : T3 K mg) (b3 : TBs K mg base) : CalG P w K mg base 7 "_law_escapes_right" (spEsR K) := by
  have t := t3.z.t
  refine cal_ofG t.d_law_escapes_right sc_EsR (fun _ _ _ _ _ _ us hl => match us, hl with | [_, _], _ => rfl) (fun vs H Q E h => ?_) (fun f cdv A outer s H vs Q E hg hr h => ?_)
  · obtain ⟨a, _, _, _, rfl, _⟩ := h
    rfl
  · obtain ⟨m, c, M, ch, rfl, hM, ok, hc, cm, tab, q⟩ := h
    have nd := sc_EsR.nd
    have hu := hu_of hr
    have h64 := hr.units
    have few := ok.few
    refine ⟨_, pss_cons (ps_par (i := 2) (j := 3) rfl nd rfl rfl (by decide) rfl rfl (pa_cons (cb (call_sortedD rfl) t.n_sorted (pa_cons (pe_dget hu (pv 0) pe_str (fun _ _ => rfl)) pa_nil)) (pa_cons (pe_lst pa_nil) pa_nil)) (by with_unfolding_all rfl))
      (pss_cons (ps_for PassesOwn.never rfl (pi_list (pe_op op_cat (pv 2) (pv 2))) (gv 4 nd)
        (pss_cons (sv 5 nd (pe_c (c_escape t3 b3) hr (by decide) (pa_cons (pv 1) (pa_cons (pv 4) pa_nil))))
        (pss_cons (ps_expr (pe_bm PySem.F.plainAttrs_list PySem.F.slot_list_append PySem.F.type_list_append mt_append (pv 3) (pa_cons (cb (cr_reprL hg h64) t.n_repr (pa_cons (pv 5) pa_nil)) pa_nil)))
        (pss_one (ps_if (pt_cmp (pc_notN (pv 5))) (pss_one (ps_expr (pe_bm PySem.F.plainAttrs_list PySem.F.slot_list_append PySem.F.type_list_append mt_append (pv 5) (pa_cons pe_str pa_nil)))) pss_nil)))))
      (pss_cons (ps_if (pt_cmpR (op_neD h64) (pe_slice sl_list (pv 3) po_none (po_some (cb call_len_seq t.n_len (pa_cons (pv 2) pa_nil)))) (pe_slice sl_list (pv 3) (po_some (cb call_len_seq t.n_len (pa_cons (pv 2) pa_nil))) po_none) (nomark _)) (pss_one (ps_ret pe_bl)) pss_nil)
      (pss_cons (sv 6 nd (pe_c (c_dry t3 b3) hr (by decide) (pa_cons (pe_c (c_chart t) hr (by decide) (pa_cons (pv 0) pa_nil)) pa_nil)))
      (pss_one (ps_ret (pe_cmpR (op_eqD h64) (lc1t 4 rfl nd (pi_list (pv 2)) (fun _ _ _ _ _ => pt_not (pt_val (pe_c (c_escape_right t3 b3) hr (by decide) (pa_cons (pv 0) (pa_cons (pv 1) (pa_cons (pv 6) (pa_cons (pv 4) pa_nil))))))) (fun _ _ _ _ _ => pv 4) (bk nEs2 s_law_escapes_right)) (pe_lst pa_nil) (nomark _))))))), ?_⟩
    have l0 : (0 : Nat) ≤ sizeLine := Nat.zero_le _
    have nmc : ∀ {x : Str}, x ∈ ch.names ↔ x ∈ M.ns := cm.nm.mem_iff
    obtain ⟨kvs, dl, dh, lt, lo, em, k4, v1, v2, v3, v4, el, eh, et, eo⟩ := id hM
    refine ⟨_, rfl, m, _, rfl, dgv em v1, dl, _, M.ns, rfl, .inl el, mp_fst, by omega, fun ys nh pm hs hnh => ⟨l0, fun td htd => ⟨_, _, rfl, ?_⟩⟩⟩
    have ylen := pm.length_eq
    have ym : ∀ {x : Str}, x ∈ ys → x ∈ M.ns := fun h => pm.mem_iff.mp h
    have ne1 : td ≠ nh := (fresh_upd htd).1
    have U0 : Up K H (upd (upd H nh (.lst (ys.map V.str))) td (.lst [])) := (Up.new hnh).add htd
    have enh : upd (upd H nh (.lst (ys.map V.str))) td (.lst []) nh = some (.lst (ys.map V.str)) := ext_new htd _ _ upd_same
    refine ⟨_, rfl, _, rfl, nh, nh, _, _, rfl, rfl, enh, enh, by rw [List.length_map]; exact Nat.le_of_lt (line8' (by omega)), fun lc hlc => ?_⟩
    rw [show ys.map V.str ++ ys.map V.str = (ys ++ ys).map V.str from (List.map_append ..).symm]
    refine ⟨lc, rfl, ⟨_, SqL.of upd_same⟩, for_it walk_names (fun i σ H' => ∃ o4 o5 ts, σ = [some (.ref m), some (.ref c), some (.ref nh), some (.ref td), o4, o5, none] ∧ Up K H H' ∧ H' lc = some (.lst ((ys ++ ys).map V.str)) ∧ H' nh = some (.lst (ys.map V.str)) ∧ H' td = some (.lst (List.map V.str ts)) ∧ TellsOk ch (ys ++ ys) i ts)
      ⟨_, _, [], rfl, U0.add hlc, upd_same, ext_new hlc _ _ enh, ext_new hlc _ _ upd_same, ⟨rfl, fun j n t _ h => by cases h⟩⟩ (fun i σ H' _ h => let ⟨_, _, _, _, _, e, _⟩ := h; SqL.of e) (fun i x σ H3 H4 hi h hy => ?_) (fun σ H3 h => ?_)⟩
    · obtain ⟨o4, o5, ts, rfl, U3, elc, en3, et3, tk⟩ := h
      obtain ⟨rfl, n, hn, rfl⟩ := hy
      have hmy : n ∈ ys := by rcases List.mem_append.mp (List.mem_of_getElem? hn) with h | h <;> exact h
      have hnc : n ∈ ch.names := nmc.mpr (ym hmy)
      refine ⟨_, rfl, _, rfl, c, n, ch, rfl, hc.up U3, cm.ok, hnc, U3.tabs tab, fun H5 u5 ie => ?_, fun H5 wa way u5 fw ew ie => ?_⟩
      · have U5 := U3.trans u5
        have lt3 : (List.map V.str ts).length < sizeLine := by
          rw [List.length_map, tk.1]
          have := hi
          rw [List.length_append] at this
          exact line8' (by omega)
        refine ⟨_, rfl, .inl ⟨rfl, _, SqL.of (u5.at et3)⟩, _, rfl, .inl ⟨rfl, td, _, _, rfl, rfl, u5.at et3, lt3, ?_⟩⟩
        have U6 := Up.wrF (o := .lst (List.map V.str ts ++ [.str "None"])) U5 (Fr.of (fresh_upd htd).2) (u5.at et3) trivial
        refine ⟨_, rfl, _, rfl, Eq.mpr (if_neg (by simp)) ?_⟩
        exact ⟨_, _, ts ++ [tellX none], rfl, U6, (upd_ne (fresh_upd hlc).1).trans (u5.at elc), (upd_ne (Ne.symm ne1)).trans (u5.at en3), by rw [upd_same, List.map_append]; rfl, tk.snoc hn ie⟩
      · have U5 := U3.trans u5
        have nwt : wa ≠ td := fun z => by
          obtain ⟨ps, e⟩ := fw _ (z ▸ et3)
          cases e
        have gd := esc_good cm ok hnc ie
        have lt3 : (List.map V.str ts).length < sizeLine := by
          rw [List.length_map, tk.1]
          have := hi
          rw [List.length_append] at this
          exact line8' (by omega)
        have U6 := Up.wrF (o := .lst (List.map V.str ts ++ [.str (shL way)])) U5 (Fr.of (fresh_upd htd).2) (u5.at et3) trivial
        have ew6 : upd H5 td (.lst (List.map V.str ts ++ [.str (shL way)])) wa = some (.lst (way.map V.str)) := (upd_ne nwt).trans ew
        refine ⟨_, rfl, .inl ⟨rfl, _, SqL.of (u5.at et3)⟩, _, rfl, .inr ⟨wa, way, rfl, SqL.of ew, Nat.le_of_lt (line8' (Nat.le_trans (shL_ok gd.1 gd.2).2 (by decide))), td, _, _, rfl, rfl, u5.at et3, lt3, ?_⟩⟩
        refine ⟨_, rfl, _, rfl, Eq.mpr (if_pos (by simp)) ?_⟩
        have nwl : wa ≠ lc := fun z => by
          obtain ⟨ps, e⟩ := fw _ (z ▸ elc)
          cases e
        have nwn : wa ≠ nh := fun z => by
          obtain ⟨ps, e⟩ := fw _ (z ▸ en3)
          cases e
        have U7 := Up.wrF (o := .lst (List.map V.str way ++ [.str "more"])) U6 (fw.back U3) ew6 trivial
        refine ⟨_, rfl, .inl ⟨rfl, _, SqL.of ew6⟩, wa, _, _, rfl, rfl, ew6, by rw [List.length_map]; exact line8' (Nat.le_trans gd.1 (by decide)), ?_⟩
        exact ⟨_, _, ts ++ [tellX (some way)], rfl, U7, (upd_ne (Ne.symm nwl)).trans ((upd_ne (fresh_upd hlc).1).trans (u5.at elc)), (upd_ne (Ne.symm nwn)).trans ((upd_ne (Ne.symm ne1)).trans (u5.at en3)), by rw [upd_ne (Ne.symm nwt), upd_same, List.map_append]; rfl, tk.snoc hn ie⟩
    · obtain ⟨o4, o5, ts, rfl, U3, elc, en3, et3, tk⟩ := h
      have tl := tk.1
      refine ⟨_, rfl, _, rfl, nh, _, rfl, .inl (SqL.of en3), _, rfl, td, _, rfl, SqL.of et3, fun p hp => ?_⟩
      refine ⟨_, rfl, _, rfl, nh, _, rfl, .inl (SqL.of (ext_new hp _ _ en3)), _, rfl, td, _, rfl, SqL.of (ext_new hp _ _ et3), fun p2 hp2 => ?_⟩
      have c1 : cutV (List.map V.str ts) none (some ((List.map V.str ys).length : Int)) = (ts.take ys.length).map V.str := by
        unfold cutV HT.sIx
        rw [List.length_map, List.length_map, List.map_take]
        simp only [List.drop_zero]
        congr 1
        rw [tl, List.length_append]
        rw [if_neg (by omega)]
        omega
      have c2 : cutV (List.map V.str ts) (some ((List.map V.str ys).length : Int)) none = (ts.drop ys.length).map V.str := by
        unfold cutV HT.sIx
        rw [List.length_map, List.length_map, List.map_drop]
        simp only []
        rw [if_neg (by omega)]
        rw [tl, List.length_append]
        rw [show min (ys.length : Int).toNat (ys.length + ys.length) = ys.length by omega]
        rw [List.take_of_length_le (by rw [List.length_drop, List.length_map, tl, List.length_append]; omega)]
      rw [c1] at hp2
      rw [c1, c2]
      have hh := tk.halves
      rw [hh] at hp2 ⊢
      have asc : ∀ x ∈ ts.drop ys.length, Ascii x := fun x hx => by
        obtain ⟨j, hj⟩ := List.mem_iff_getElem?.mp (List.mem_of_mem_drop hx)
        have hjl := (List.getElem?_eq_some_iff.mp hj).1
        rw [tl] at hjl
        obtain ⟨r, ir, rfl⟩ := tk.2 j _ x (List.getElem?_eq_getElem hjl) hj
        have hm : (ys ++ ys)[j] ∈ ys := by rcases List.mem_append.mp (List.getElem_mem hjl) with h | h <;> exact h
        cases r with
        | none => show Ascii ("None" : Str); unfold Ascii; decide
        | some way =>
          have gd := esc_good cm ok (nmc.mpr (ym hm)) ir
          exact (shL_ok gd.1 gd.2).1
      have e1 := ext_new (o := .lst ((ts.drop ys.length).map V.str)) hp2 _ _ upd_same
      refine ⟨dS _, dS _, dp_strs e1, dp_strs upd_same, shaped_dS asc, shaped_dS asc, ?_⟩
      rw [SeqAt.eqv_refl _ (canLay_dS asc)]
      have U5 := (U3.add (o := .lst ((ts.drop ys.length).map V.str)) hp).add (o := .lst ((ts.drop ys.length).map V.str)) hp2
      refine ⟨_, rfl, Eq.mpr (if_neg (by simp)) ?_⟩
      refine ⟨_, rfl, m, M, rfl, hM.up U5, ok, fun H6 c' ch' u6 hc' hn' co => ?_⟩
      obtain rfl : ch = ch' := cm.uniq co
      refine ⟨c', ch, rfl, hc', cm.ok, (U5.trans u6).tabs tab, fun H7 dr u7 hl => ?_⟩
      have U7 := (U5.trans u6).trans u7
      have en7 : H7 nh = some (.lst (ys.map V.str)) := u7.at (u6.at (ext_new hp2 _ _ (ext_new hp _ _ en3)))
      refine ⟨_, rfl, nh, rfl, ⟨_, SqL.of en7⟩, fun F hF => lcF (K := K) walk_names hF (fun _ => none) (by omega) (fun H u => SqL.of (u.at en7)) (fun i o x H8 H' Pn Py ho u8 hy kn ky => ?_) (fun H8 u8 e8 => ?_)⟩
      · obtain ⟨rfl, o', ho', rfl⟩ := hy
        obtain rfl : o = o' := Option.some.inj (ho.symm.trans ho')
        have U8 := U7.trans u8
        exact ⟨rfl, _, rfl, _, rfl, _, rfl, _, rfl, m, c, dr, c', o, M, ch, rfl, hM.up U8, ok, hc.up U8, cm, hl.up u8, ym (List.mem_of_getElem? ho), U8.tabs tab, fun H9 u9 => ⟨_, rfl, kn _ u9 rfl⟩⟩
      · rw [fm_none] at e8
        refine ⟨l0, fun e9 he9 => ⟨.list [], .list [], .lst (SqL.of (ext_new he9 _ _ e8)) .nil, .lst (SqL.of upd_same) .nil, shaped_nil, shaped_nil, ?_⟩⟩
        rw [eqv_nil]
        exact q _ ((U7.trans u8).add he9)
end
end SH
/-! W35 -/
set_option Elab.async false
set_option linter.all false
set_option maxRecDepth 100000
set_option maxHeartbeats 1000000
/-! All but the box stays: charts, models, tables. -/
namespace SH
open PySem PySem.Spec PyProof.Rows L2 LamX
theorem strs_ne {l : List Str} {u v w : Int} : (.lst (l.map V.str) : HO) ≠ .lst [.int u, .int v, .int w] := fun z => by
  have z := HO.lst.inj z
  cases l with
  | nil => cases z
  | cons a l => rw [List.map_cons] at z; cases z
theorem refs_ne {α : Type} {l : List α} {f : α → Addr} {u v w : Int} : (.lst (l.map fun q => V.ref (f q)) : HO) ≠ .lst [.int u, .int v, .int w] := fun z => by
  have z := HO.lst.inj z
  cases l with
  | nil => cases z
  | cons a l => rw [List.map_cons] at z; cases z
section
variable {K : Frg} {H H' : Hp} {b a : Addr} {k : Nat}
/-- what is no box stays -/
theorem StB.at (s : StB b H H') (hb : BoxAt H b k) {o : HO} (h : H a = some o) (n : ∀ u v w : Int, o ≠ .lst [.int u, .int v, .int w]) : H' a = some o := by
  obtain ⟨x, y, z, e, _⟩ := hb
  exact s a o (fun c => by rw [c, e] at h; exact n _ _ _ (Option.some.inj h).symm) h
theorem StB.ch {ch : Ch} (s : StB b H H') (hb : BoxAt H b k) (x : ChartAt K H a ch) : ChartAt K H' a ch := by
  obtain ⟨dx, dh, dp, dd, dn, e, ⟨bd, eh, hbd⟩, ⟨L, eL, r, t⟩, ed, ⟨nl, en, hn⟩⟩ := x
  refine ⟨dx, dh, dp, dd, dn, s.at hb e (fun _ _ _ z => nomatch z), ⟨bd, s.at hb eh (fun _ _ _ z => nomatch z), fun n hm => ?_⟩, ⟨L, s.at hb eL (fun _ _ _ => refs_ne), fun q hq => s.at hb (r q hq) (fun _ _ _ z => nomatch z), t⟩, s.at hb ed (fun _ _ _ => strs_ne), ⟨nl, s.at hb en (fun _ _ _ z => nomatch z), fun n hm => s.at hb (hn n hm) (fun _ _ _ => strs_ne)⟩⟩
  obtain ⟨dx, e⟩ := hbd n hm
  exact ⟨dx, s.at hb e (fun _ _ _ z => nomatch z)⟩
theorem StB.mdw {M : Md} {kvs : List (Key × V)} {dl dh lt lo : Addr} (s : StB b H H') (hb : BoxAt H b k) (x : MdW H a M kvs dl dh lt lo) : MdW H' a M kvs dl dh lt lo := by
  obtain ⟨em, k4, v1, v2, v3, v4, el, eh, ⟨L, eL, r, t⟩, eo⟩ := x
  exact ⟨s.at hb em (fun _ _ _ z => nomatch z), k4, v1, v2, v3, v4, s.at hb el (fun _ _ _ z => nomatch z), s.at hb eh (fun _ _ _ z => nomatch z), ⟨L, s.at hb eL (fun _ _ _ => refs_ne), fun q hq => s.at hb (r q hq) (fun _ _ _ z => nomatch z), t⟩, s.at hb eo (fun _ _ _ => strs_ne)⟩
theorem StB.md {M : Md} (s : StB b H H') (hb : BoxAt H b k) (x : MdAt H a M) : MdAt H' a M := let ⟨kvs, dl, dh, lt, lo, h⟩ := x; ⟨kvs, dl, dh, lt, lo, s.mdw hb h⟩
theorem StB.tabs {TT : List (Addr × Str)} (s : StB b H H') (hb : BoxAt H b k) (x : Tabs TT H) : Tabs TT H' := fun P hP => by
  obtain ⟨ps, h1, h2, h3⟩ := x P hP
  refine ⟨ps, s.at hb h1 (fun _ _ _ z => nomatch z), h2, fun pos cv hc => ?_⟩
  obtain ⟨c, e1, e2⟩ := h3 pos cv hc
  exact ⟨c, e1, s.at hb e2 (fun _ _ _ z => by unfold CodeO at z; cases z)⟩
end
end SH
/-! W36 -/
set_option Elab.async false
set_option linter.all false
set_option maxRecDepth 100000
set_option maxHeartbeats 1500000
namespace SH
open PySem PySem.Spec PyProof.Rows L2 LamX
abbrev nLa : List Str := ["_law_box_here", "_law_model_here", "_law_chart_here", "_law_name", "_law_one", "_law_other", "_law_low", "_law_high", "_law_second", "_law_later", "_law_fresh"]
/-- a model with other bounds of a place -/
def Md.alt (M : Md) (n : Str) (l h : Int) : Md := { M with lo := setF M.lo n l, hi := setF M.hi n h }
theorem Md.Ok.alt {M : Md} (ok : M.Ok) {n : Str} {l h : Int} (gl : GoodH l) (gh : GoodH h) (le : l ≤ h) : (M.alt n l h).Ok := ⟨ok.nd, ok.one, ok.few, ok.nm, fun m hm => by
  show GoodH (if m = n then l else M.lo m) ∧ GoodH (if m = n then h else M.hi m) ∧ (if m = n then l else M.lo m) ≤ (if m = n then h else M.hi m)
  by_cases c : m = n
  · rw [if_pos c, if_pos c]; exact ⟨gl, gh, le⟩
  · rw [if_neg c, if_neg c]; exact ok.rng m hm, ok.tin, ok.tfew, ok.ond, ok.oin⟩
theorem cm_alt {ch ch' : Ch} {M : Md} (cm : CM ch M) {n : Str} {l h : Int} (c : ChOf ch' ch.names (setF ch.low n l) (setF ch.high n h) ch.pairs ch.drains) : CM ch' (M.alt n l h) := by
  refine ⟨c.ok, c.nm.trans cm.nm, ?_, ?_, ?_, c.dr.trans cm.dr⟩
  · rw [c.lo, cm.lo]; rfl
  · rw [c.hi, cm.hi]; rfl
  · intro p
    show _ ↔ p ∈ M.ts.map mm
    rw [c.pr, ← cm.pr]
    have e : ∀ q ∈ ch.pairs, mm q = q := fun q hq => by
      have h3 := (cm.ok.pin q hq).2.2
      rcases mm_cases (fun z => slt_irr q.1 (by rw [← z] at h3; exact h3)) with ⟨e, _⟩ | ⟨_, h⟩
      · exact e
      · exact (slt_asymm h3 h).elim
    rw [List.map_congr_left e, List.map_id']
abbrev sKv (lt lo nl nh : Addr) : List (Key × V) := [(Sum.inr "ties", .ref lt), (Sum.inr "outlets", .ref lo), (Sum.inr "low", .ref nl), (Sum.inr "high", .ref nh)]
/-- two lists of texts in a list -/
theorem dp_two {K : Frg} {H : Hp} {p a b : Addr} {xs ys : List Str} (e : H p = some (.lst [.ref a, .ref b])) (ea : H a = some (.lst (xs.map V.str))) (eb : H b = some (.lst (ys.map V.str))) : Dp K H (.ref p) (.list [dS xs, dS ys]) := .lst (SqL.of e) (.cons (dp_strs ea) (.cons (dp_strs eb) .nil))
theorem canLay_two {xs ys : List Str} (hx : ∀ n ∈ xs, Ascii n) (hy : ∀ n ∈ ys, Ascii n) : (PyData.list [dS xs, dS ys]).canLay0 = true := by
  rw [PyData.canLay0, PyData.canLayAll0, PyData.canLayAll0, PyData.canLayAll0, canLay_dS hx, canLay_dS hy]; rfl
theorem shaped_two {xs ys : List Str} (hx : ∀ n ∈ xs, Ascii n) (hy : ∀ n ∈ ys, Ascii n) : SeqAt.shaped (.list [dS xs, dS ys]) = true := by
  unfold SeqAt.shaped
  rw [canLay_two hx hy, decide_eq_true]
  · rfl
  · have h1 := depth_dS xs
    have h2 := depth_dS ys
    rw [PyData.depth, PyData.depthAll, PyData.depthAll, PyData.depthAll]
    omega
/-- two lands of one chart's shape, the later one's chart made behind the other's -/
theorem reqL_of {K : Frg} {H H0 : Hp} {a b c c' : Addr} {ch : Ch} {hs : Str → Int} (la : LandC K H a c ch hs) (lb : LandC K H b c' ch hs) (hc : ChartAt K H0 c ch) (u : Up K H0 H) (hn : HeldNew H0 H c') (ok : ch.Ok) : REqL K a b H := by
  obtain ⟨dx, d, e1, h1, h2⟩ := la
  obtain ⟨dx', d', e1', h1', h2'⟩ := lb
  obtain ⟨cx, dh, dp, dd, dn, e, ⟨bd, eh, hb⟩, hp, hd, _⟩ := hc
  obtain ⟨cx', dh', dp', dd', dn', e', hh', hp', hd', _⟩ := h1'
  refine ⟨ch, hs, dx, c, d, dx', c', d', e1, e1', ⟨ch, cx, dh, dp, dd, dn, cx', dh', dp', dd', dn', u.at e, e', HeldAt.up ⟨bd, eh, hb⟩ u, hh', hp.up u, hp', u.at hd, hd', fun z => ?_, ok⟩, h2, h2'⟩
  exact hn _ _ _ dh' e' rfl _ (by rw [← z]; exact eh)
theorem HeldNew.up {K : Frg} {H0 H H1 : Hp} {a C dx : Addr} {fs : List (Str × V)} (h : HeldNew H0 H a) (e : H a = some (.ins C dx fs)) (u : Up K H H1) : HeldNew H0 H1 a := fun C' dx' fs' dh e1 e2 => by
  rw [u.at e] at e1
  cases e1
  exact h _ _ _ dh e e2
section
variable {P : Program} {w : World} {K : Frg} {mg : Str → Option Value} {base : Heap}
def spLat (K : Frg) : Sp := fun vs H Q _ => ∃ (b m c : Addr) (k : Nat) (M : Md) (ch : Ch), vs = [.ref b, .ref m, .ref c] ∧ BoxAt H b k ∧ k ≤ 700000 ∧ MdAt H m M ∧ M.Ok ∧ ChartAt K H c ch ∧ CM ch M ∧ Tabs (TT K) H ∧ ∀ H1 H', StB b H H1 → Up K H1 H' → Q (.bl true) H'
theorem sc_Lat : FnScope nLa ["_law_box_here", "_law_model_here", "_law_chart_here"] (defScope s_law_later_right) := sc_of
theorem c_later_right (t3 : T3 K mg) (b3 : TBs K mg base) : CalG P w K mg base 10 "_law_later_right" (spLat K) := by
  have t := t3.z.t
  refine cal_ofG t.d_law_later_right sc_Lat (fun _ _ _ _ _ _ us hl => match us, hl with | [_, _, _], _ => rfl) (fun vs H Q E h => ?_) (fun f cdv A outer s H vs Q E hg hr h => ?_)
  · obtain ⟨a, _, _, _, _, _, rfl, _⟩ := h
    rfl
  · obtain ⟨b, m, c, k, M, ch, rfl, hb, hk, hM, ok, hc, cm, tab, q⟩ := h
    have nd := sc_Lat.nd
    have hu := hu_of hr
    have h64 := hr.units
    have few := ok.few
    have one := ok.one
    refine ⟨_, pss_cons (sv 3 nd (pe_ix ix_list (cb (call_sortedD rfl) t.n_sorted (pa_cons (pe_dget hu (pv 1) pe_str (fun _ _ => rfl)) pa_nil)) (pe_c (c_take t) hr (by decide) (pa_cons (pv 0) (pa_cons (cb call_lenD t.n_len (pa_cons (pe_dget hu (pv 1) pe_str (fun _ _ => rfl)) pa_nil)) pa_nil))) (fun _ _ => rfl)))
      (pss_cons (ps_par (i := 4) (j := 5) rfl nd rfl rfl (by decide) rfl rfl (pa_cons (pe_c (c_height t) hr (by decide) (pa_cons (pv 0) (pa_cons (pe_c (c_take t) hr (by decide) (pa_cons (pv 0) (pa_cons pe_int pa_nil))) pa_nil))) (pa_cons (pe_c (c_height t) hr (by decide) (pa_cons (pv 0) (pa_cons pe_int pa_nil))) pa_nil)) (by with_unfolding_all rfl))
      (pss_cons (ps_par (i := 6) (j := 7) rfl nd rfl rfl (by decide) rfl rfl (pa_cons (ct call_dictD t.n_dict (pa_cons (pe_dget hu (pv 1) pe_str (fun _ _ => rfl)) pa_nil)) (pa_cons (ct call_dictD t.n_dict (pa_cons (pe_dget hu (pv 1) pe_str (fun _ _ => rfl)) pa_nil)) pa_nil)) (by with_unfolding_all rfl))
      (pss_cons (ps_asg (pe_tup (pa_cons (cb (call_min2 rfl) t.n_min (pa_cons (pv 4) (pa_cons (pv 5) pa_nil))) (pa_cons (cb (call_max2 rfl) t.n_max (pa_cons (pv 4) (pa_cons (pv 5) pa_nil))) pa_nil))) (pg_tup rfl (pgs_cons (pg_sub (pv 6) (pv 3) (set_dict hu)) (pgs_cons (pg_sub (pv 7) (pv 3) (set_dict hu)) pgs_nil))))
      (pss_cons (sv 8 nd (pe_disp (pps_cons pe_str (pe_dget hu (pv 1) pe_str (fun _ _ => rfl)) (pps_cons pe_str (pe_dget hu (pv 1) pe_str (fun _ _ => rfl)) (pps_cons pe_str (pv 6) (pps_cons pe_str (pv 7) pps_nil)))) rfl rfl (List.cons_ne_nil _ _) (by decide)))
      (pss_cons (ps_par (i := 9) (j := 10) rfl nd rfl rfl (by decide) rfl rfl (pa_cons (pe_mt (m_WB t) hr (by decide) (pv 2) (pa_cons (pv 3) (pa_cons (pe_mk (m_BInit t) t.mkB t.kB t.gB hr (by decide) (pa_cons (pe_dget hu (pv 6) (pv 3) (fun _ _ => rfl)) (pa_cons (pe_dget hu (pv 7) (pv 3) (fun _ _ => rfl)) pa_nil))) pa_nil))) (pa_cons (pe_c (c_chart t) hr (by decide) (pa_cons (pv 8) pa_nil)) pa_nil)) (by with_unfolding_all rfl))
      (pss_cons (ps_if (pt_cmpR (op_neD h64) (pe_lst (pa_cons (pe_c (c_surely_wet t3 b3) hr (by decide) (pa_cons (pv 2) pa_nil)) (pa_cons (pe_c (c_never_wet t3 b3) hr (by decide) (pa_cons (pv 2) pa_nil)) pa_nil))) (pe_lst (pa_cons (pe_c (c_surely_wet t3 b3) hr (by decide) (pa_cons (pe_c (c_chart t) hr (by decide) (pa_cons (pv 1) pa_nil)) pa_nil)) (pa_cons (pe_c (c_never_wet t3 b3) hr (by decide) (pa_cons (pe_c (c_chart t) hr (by decide) (pa_cons (pv 1) pa_nil)) pa_nil)) pa_nil))) (nomark _)) (pss_one (ps_ret pe_bl)) pss_nil)
      (pss_cons (ps_if (pt_cmpR (op_neD h64) (pe_lst (pa_cons (pe_c (c_surely_wet t3 b3) hr (by decide) (pa_cons (pv 9) pa_nil)) (pa_cons (pe_c (c_never_wet t3 b3) hr (by decide) (pa_cons (pv 9) pa_nil)) pa_nil))) (pe_lst (pa_cons (pe_c (c_surely_wet t3 b3) hr (by decide) (pa_cons (pv 10) pa_nil)) (pa_cons (pe_c (c_never_wet t3 b3) hr (by decide) (pa_cons (pv 10) pa_nil)) pa_nil))) (nomark _)) (pss_one (ps_ret pe_bl)) pss_nil)
      (pss_cons (ps_if (PW.pt (pw_or (pt_cmpR op_ne (pe_c (c_least_total t3 b3) hr (by decide) (pa_cons (pv 9) pa_nil)) (pe_c (c_least_total t3 b3) hr (by decide) (pa_cons (pv 10) pa_nil)) (nomark _)) (pw_or1 (pt_cmpR (op_neC (m_LEq t) t3.z.neL (hr.mono (by decide))) (pe_c (c_wet t3.z) hr (by decide) (pa_cons (pv 9) (pa_cons (pv 3) pa_nil))) (pe_c (c_wet t3.z) hr (by decide) (pa_cons (pv 10) (pa_cons (pv 3) pa_nil))) (nomark _))))) (pss_one (ps_ret pe_bl)) pss_nil)
      (pss_one (ps_ret (pe_and (pe_cG (c_escapes_right t3 b3) hr hg (by decide) (pa_cons (pv 8) (pa_cons (pv 9) pa_nil))) (pe_one (pe_cG (c_escapes_right t3 b3) hr hg (by decide) (pa_cons (pv 1) (pa_cons (pv 2) pa_nil))))))))))))))), ?_⟩
    have l0 : (0 : Nat) ≤ sizeLine := Nat.zero_le _
    obtain ⟨kvs, dl, dh, lt, lo, hMW⟩ := id hM
    obtain ⟨em, k4, v1, v2, v3, v4, el, eh, et, eo⟩ := id hMW
    refine ⟨_, rfl, m, _, rfl, dgv em v1, dl, _, M.ns, rfl, .inl el, mp_fst, by omega, fun ys p pm hs hp => ?_⟩
    have ylen := pm.length_eq
    obtain ⟨xb, ebx⟩ := hb.ex
    have bp : b ≠ p := ne_of_none ebx hp
    have st1 : StB b H (upd H p (.lst (ys.map V.str))) := StB.new hp
    have hb1 : BoxAt (upd H p (.lst (ys.map V.str))) b k := hb.wr bp
    have W1 := st1.mdw hb hMW
    refine ⟨_, rfl, _, rfl, m, _, rfl, dgv W1.1 v1, dl, _, rfl, W1.2.2.2.2.2.2.1, b, _, _, rfl, hb1, by omega, by rw [mp_len]; omega, by rw [mp_len]; omega, fun H2 dj s2 b2 dj0 dj1 => ?_⟩
    rw [mp_len] at dj1
    obtain ⟨j, rfl⟩ : ∃ j : Nat, dj = j := ⟨dj.toNat, by omega⟩
    obtain ⟨n, hxn⟩ : ∃ x, ys[j]? = some x := ⟨_, List.getElem?_eq_getElem (by omega)⟩
    have hn : n ∈ M.ns := pm.mem_iff.mp (List.mem_of_getElem? hxn)
    have hnc : n ∈ ch.names := cm.nm.mem_iff.mpr hn
    refine ⟨p, _, (j : Int), .str n, rfl, rfl, SqL.of (s2 p _ (Ne.symm bp) upd_same), atI_nat (by rw [List.getElem?_map, hxn]; rfl), ?_⟩
    have st2 := st1.tr s2
    refine ⟨_, rfl, _, rfl, b, 4, _, rfl, b2, by omega, by decide, by decide, fun H3 wy s3 b3' w0 w1 => ⟨b, wy, _, rfl, b3', by omega, fun H4 h1 s4 b4 g1 => ?_⟩⟩
    refine ⟨_, rfl, b, 0, _, rfl, b4, by omega, fun H5 h2 s5 b5 g2 => ⟨_, _, rfl, ?_⟩⟩
    have st5 := ((st2.tr s3).tr s4).tr s5
    have hM5 := st5.md hb hM
    have hc5 := st5.ch hb hc
    have tab5 := st5.tabs hb tab
    obtain ⟨em5, _, _, _, _, _, el5, eh5, et5, eo5⟩ := st5.mdw hb hMW
    clear W1 hb1 b2 b3' b4 b5 s2 s3 s4 s5
    refine ⟨_, rfl, m, _, rfl, dgv em5 v1, dl, _, rfl, .inl el5, fun nl hnl => ?_⟩
    have u1 := Up.new (K := K) (o := .dK (mp M.ns fun n => .int (M.lo n))) hnl
    refine ⟨_, rfl, m, _, rfl, dgv (u1.at em5) v2, dh, _, rfl, .inl (u1.at eh5), fun nh hnh => ⟨_, _, rfl, ?_⟩⟩
    have u2 := u1.add (o := .dK (mp M.ns fun n => .int (M.hi n))) hnh
    have nlh : nh ≠ nl := (fresh_upd hnh).1
    have fnl : H5 nl = none := hnl
    have fnh : H5 nh = none := (fresh_upd hnh).2
    have fle : GoodH (if h2 < h1 then h2 else h1) ∧ GoodH (if h2 > h1 then h2 else h1) ∧ (if h2 < h1 then h2 else h1) ≤ (if h2 > h1 then h2 else h1) := by
      obtain ⟨a1, a2⟩ := g1
      obtain ⟨b1', b2'⟩ := g2
      refine ⟨⟨?_, ?_⟩, ⟨?_, ?_⟩, ?_⟩ <;> (split <;> (try split) <;> omega)
    refine ⟨_, rfl, _, rfl, h1, h2, rfl, _, rfl, _, rfl, h1, h2, rfl, line2, fun tp htp => ?_⟩
    generalize (if h2 < h1 then h2 else h1) = mn at fle ⊢
    generalize (if h2 > h1 then h2 else h1) = mx at fle ⊢
    obtain ⟨gmn, gmx, hle⟩ := fle
    have u3 := u2.add (o := .tup [.int mn, .int mx]) htp
    generalize hH7 : upd (upd (upd H5 nl (.dK (mp M.ns fun n => .int (M.lo n)))) nh (.dK (mp M.ns fun n => .int (M.hi n)))) tp (.tup [.int mn, .int mx]) = H7 at u3 ⊢
    have enl7 : H7 nl = some (.dK (mp M.ns fun n => .int (M.lo n))) := by rw [← hH7]; exact ext_new htp _ _ ((upd_ne (Ne.symm nlh)).trans upd_same)
    have enh7 : H7 nh = some (.dK (mp M.ns fun n => .int (M.hi n))) := by rw [← hH7]; exact ext_new htp _ _ upd_same
    have etp7 : H7 tp = some (.tup [.int mn, .int mx]) := by rw [← hH7]; exact upd_same
    refine ⟨tp, _, rfl, SqT.of etp7, rfl, _, _, rfl, _, rfl, _, rfl, nl, _, rfl, dput_mp enl7 hn (by omega), _, _, rfl, _, rfl, _, rfl, nh, _, rfl, dput_mp ((upd_ne nlh).trans enh7) hn (by omega), rfl, ?_⟩
    have mps : ∀ (f : Str → Int) (i : Int), (mp M.ns fun m => if m = n then V.int i else V.int (f m)) = mp M.ns fun m => V.int (setF f n i m) := fun f i => mp_congr fun m _ => by
      show _ = V.int (if m = n then i else f m)
      by_cases z : m = n
      · rw [if_pos z, if_pos z]
      · rw [if_neg z, if_neg z]
    rw [mps, mps]
    have u4 := (u3.wr (o := .dK (mp M.ns fun m => V.int (setF M.lo n mn m))) fnl enl7 trivial).wr (o := .dK (mp M.ns fun m => V.int (setF M.hi n mx m))) fnh ((upd_ne nlh).trans enh7) trivial
    generalize hH8 : upd (upd H7 nl (.dK (mp M.ns fun m => V.int (setF M.lo n mn m)))) nh (.dK (mp M.ns fun m => V.int (setF M.hi n mx m))) = H8 at u4 ⊢
    have enl8 : H8 nl = some (.dK (mp M.ns fun m => V.int (setF M.lo n mn m))) := by rw [← hH8]; exact (upd_ne (Ne.symm nlh)).trans upd_same
    have enh8 : H8 nh = some (.dK (mp M.ns fun m => V.int (setF M.hi n mx m))) := by rw [← hH8]; exact upd_same
    refine fun sm hsm => ?_
    have u5 := u4.add (o := .dK []) hsm
    refine ⟨_, rfl, m, _, rfl, dgv (u5.at em5) v3, _, rfl, m, _, rfl, dgv (u5.at em5) v4, _, rfl, _, rfl, upd_same, sKv lt lo nl nh, rfl, (by decide : (4 : Nat) ≤ 15), ?_⟩
    rw [upd_upd]
    have u6 := u4.add (o := .dK (sKv lt lo nl nh)) hsm
    have ok2 := ok.alt (n := n) gmn gmx hle
    have hS : MdAt (upd H8 sm (.dK (sKv lt lo nl nh))) sm (M.alt n mn mx) := ⟨_, nl, nh, lt, lo, upd_same, (by decide : (4 : Nat) ≤ 50), rfl, rfl, rfl, rfl, ext_new hsm _ _ enl8, ext_new hsm _ _ enh8, et5.up u6, u6.at eo5⟩
    have enl9 := ext_new (o := .dK (sKv lt lo nl nh)) hsm _ _ enl8
    have enh9 := ext_new (o := .dK (sKv lt lo nl nh)) hsm _ _ enh8
    have eM : mergeK [] (sKv lt lo nl nh) = sKv lt lo nl nh := rfl
    rw [eM]
    generalize upd H8 sm (.dK (sKv lt lo nl nh)) = H9 at u6 hS enl9 enh9 ⊢
    have hc9 := hc5.up u6
    obtain ⟨cx, _, _, _, _, ec9, _⟩ := id hc9
    refine ⟨_, rfl, c, cx, _, rfl, ec9, rfl, _, rfl, _, rfl, _, rfl, nl, _, rfl, dget_mp (f := fun m => V.int (setF M.lo n mn m)) (.inl enl9) hn, _, rfl, _, rfl, nh, _, rfl, dget_mp (f := fun m => V.int (setF M.hi n mx m)) (.inl enh9) hn, fun x dx hx hdx hne => ?_⟩
    have sn : ∀ (f : Str → Int) (i : Int), setF f n i n = i := fun f i => if_pos rfl
    rw [sn, sn]
    refine ⟨x, dx, mn, mx, rfl, upd_same, gmn, gmx, hle, rfl, ?_⟩
    have ux : Up K H9 (upd (upd (upd H9 dx (.own x)) x (.ins (cB K) dx [])) x (.ins (cB K) dx [("low", .int mn), ("high", .int mx)])) := Up.all (((show St1 H9 (upd H9 dx (.own x)) from ext_new hdx).rd hx).rd hx)
    have u7 := u6.trans ux
    refine ⟨c, x, n, ch, mn, mx, rfl, hc9.up ux, cm.ok, hnc, ⟨dx, upd_same⟩, gmn, gmx, hle, fun HA lc ch2 uA hlc hnw co => ?_⟩
    have cm2 := cm_alt cm co
    have u8 := u7.trans uA
    refine ⟨_, rfl, sm, M.alt n mn mx, rfl, hS.up (ux.trans uA), ok2, fun HB fc ch3 uB hfc hnf co3 => ⟨_, _, rfl, ?_⟩⟩
    obtain rfl : ch2 = ch3 := cm2.uniq co3
    have u9 := u8.trans uB
    have hlcB := hlc.up uB
    have hSB := hS.up ((ux.trans uA).trans uB)
    have hcB := hc5.up u9
    have hMB := hM5.up u9
    have tabB := u9.tabs tab5
    have asS : ∀ (h : Ch), h.Ok → ∀ x ∈ sureF h, Ascii x := fun h hk x hx => (hk.good x (List.mem_filter.mp hx).1).ascii
    have asN : ∀ (h : Ch), h.Ok → ∀ x ∈ neverF h, Ascii x := fun h hk x hx => (hk.good x (List.mem_filter.mp hx).1).ascii
    -- the chart asked again
    refine ⟨_, rfl, c, ch, rfl, hcB, cm.ok, tabB, fun HC sA uC eA => ⟨_, rfl, c, ch, rfl, hcB.up uC, cm.ok, uC.tabs tabB, fun HD nA uD eN => ⟨line2, fun pa hpa => ?_⟩⟩⟩
    have v1' := (uC.trans uD).add (o := .lst [.ref sA, .ref nA]) hpa
    have epa : upd HD pa (.lst [.ref sA, .ref nA]) pa = some (.lst [.ref sA, .ref nA]) := upd_same
    have esA := ext_new (o := .lst [.ref sA, .ref nA]) hpa _ _ (uD.at eA)
    have enA := ext_new (o := .lst [.ref sA, .ref nA]) hpa _ _ eN
    generalize upd HD pa (.lst [.ref sA, .ref nA]) = HD' at v1' epa esA enA ⊢
    refine ⟨_, rfl, m, M, rfl, hMB.up v1', ok, fun HE ca cha uE hca hna coa => ?_⟩
    obtain rfl : ch = cha := cm.uniq coa
    have v2' := v1'.trans uE
    refine ⟨ca, ch, rfl, hca, cm.ok, v2'.tabs tabB, fun HF sB uF eB => ?_⟩
    have v3' := v2'.trans uF
    refine ⟨_, rfl, m, M, rfl, hMB.up v3', ok, fun HG cb' chb uG hcb hnb cob => ?_⟩
    obtain rfl : ch = chb := cm.uniq cob
    have v4' := v3'.trans uG
    refine ⟨cb', ch, rfl, hcb, cm.ok, v4'.tabs tabB, fun HI nB uI eNB => ⟨line2, fun pb hpb => ?_⟩⟩
    have v5' := (v4'.trans uI).add (o := .lst [.ref sB, .ref nB]) hpb
    have uEI := ((uE.trans uF).trans uG).trans uI
    refine ⟨.list [dS (sureF ch), dS (neverF ch)], .list [dS (sureF ch), dS (neverF ch)], dp_two (ext_new hpb _ _ (uEI.at epa)) (ext_new hpb _ _ (uEI.at esA)) (ext_new hpb _ _ (uEI.at enA)), dp_two upd_same (ext_new hpb _ _ ((uG.trans uI).at eB)) (ext_new hpb _ _ eNB), shaped_two (asS ch cm.ok) (asN ch cm.ok), shaped_two (asS ch cm.ok) (asN ch cm.ok), ?_⟩
    rw [SeqAt.eqv_refl _ (canLay_two (asS ch cm.ok) (asN ch cm.ok))]
    refine ⟨_, rfl, Eq.mpr (if_neg (by simp)) ?_⟩
    have u10 := u9.trans v5'
    generalize upd HI pb (.lst [.ref sB, .ref nB]) = HJ at v5' u10 ⊢
    clear epa esA enA eA eN eB eNB
    have hlcJ := hlcB.up v5'
    have hfcJ := hfc.up v5'
    have hSJ := hSB.up v5'
    have tabJ := u10.tabs tab5
    have ok3 := cm2.ok
    have as2S := asS ch2 ok3
    have as2N := asN ch2 ok3
    -- the later chart, the fresh one
    refine ⟨_, rfl, lc, ch2, rfl, hlcJ, ok3, tabJ, fun HC2 sA2 uC2 eA2 => ⟨_, rfl, lc, ch2, rfl, hlcJ.up uC2, ok3, uC2.tabs tabJ, fun HD2 nA2 uD2 eN2 => ⟨line2, fun pa2 hpa2 => ?_⟩⟩⟩
    have w1 := (uC2.trans uD2).add (o := .lst [.ref sA2, .ref nA2]) hpa2
    have epa2 : upd HD2 pa2 (.lst [.ref sA2, .ref nA2]) pa2 = some (.lst [.ref sA2, .ref nA2]) := upd_same
    have esA2 := ext_new (o := .lst [.ref sA2, .ref nA2]) hpa2 _ _ (uD2.at eA2)
    have enA2 := ext_new (o := .lst [.ref sA2, .ref nA2]) hpa2 _ _ eN2
    generalize upd HD2 pa2 (.lst [.ref sA2, .ref nA2]) = HE2 at w1 epa2 esA2 enA2 ⊢
    refine ⟨_, rfl, fc, ch2, rfl, hfcJ.up w1, ok3, w1.tabs tabJ, fun HF2 sB2 uF2 eB2 => ⟨_, rfl, fc, ch2, rfl, hfcJ.up (w1.trans uF2), ok3, (w1.trans uF2).tabs tabJ, fun HG2 nB2 uG2 eNB2 => ⟨line2, fun pb2 hpb2 => ?_⟩⟩⟩
    refine ⟨.list [dS (sureF ch2), dS (neverF ch2)], .list [dS (sureF ch2), dS (neverF ch2)], dp_two (ext_new hpb2 _ _ ((uF2.trans uG2).at epa2)) (ext_new hpb2 _ _ ((uF2.trans uG2).at esA2)) (ext_new hpb2 _ _ ((uF2.trans uG2).at enA2)), dp_two upd_same (ext_new hpb2 _ _ (uG2.at eB2)) (ext_new hpb2 _ _ eNB2), shaped_two as2S as2N, shaped_two as2S as2N, ?_⟩
    rw [SeqAt.eqv_refl _ (canLay_two as2S as2N)]
    refine ⟨_, rfl, Eq.mpr (if_neg (by simp)) ?_⟩
    have w2 := (w1.trans (uF2.trans uG2)).add (o := .lst [.ref sB2, .ref nB2]) hpb2
    have u11 := u10.trans w2
    generalize upd HG2 pb2 (.lst [.ref sB2, .ref nB2]) = HK at w2 u11 ⊢
    clear epa2 esA2 enA2 eA2 eN2 eB2 eNB2
    have hlcK := hlcJ.up w2
    have hfcK := hfcJ.up w2
    have tabK := u11.tabs tab5
    have hnc2 : n ∈ ch2.names := cm2.nm.mem_iff.mpr hn
    refine ⟨_, rfl, lc, ch2, rfl, hlcK, ok3, tabK, fun HL uL => ⟨_, rfl, fc, ch2, rfl, hfcK.up uL, ok3, uL.tabs tabK, fun HM uM => ⟨rfl, false, by simp, ?_⟩⟩⟩
    have y1 := uL.trans uM
    have uBM : Up K HB HM := (v5'.trans w2).trans y1
    obtain ⟨fx, _, _, _, _, efc, _⟩ := id hfc
    refine ⟨_, rfl, _, rfl, lc, n, ch2, rfl, hlcK.up y1, ok3, hnc2, fun HN la uN lla => ⟨_, rfl, _, rfl, fc, n, ch2, rfl, hfcK.up (y1.trans uN), ok3, hnc2, fun HQ lb uQ llb => ?_⟩⟩
    have lla2 := lla.up uQ
    obtain ⟨lax, laf, ela⟩ := lla2.ex
    obtain ⟨lbx, lbf, elb⟩ := llb.ex
    have uBQ := (uBM.trans uN).trans uQ
    refine ⟨la, lb, lax, lbx, laf, lbf, rfl, rfl, ela, elb, la, lb, rfl, reqL_of lla2 llb hlc (uB.trans uBQ) (hnf.up efc uBQ) ok3, fun HR xR => ⟨true, rfl, ?_⟩⟩
    have u12 : Up K H5 HR := (u9.trans uBQ).trans (Up.all xR)
    have uBR : Up K HB HR := uBQ.trans (Up.all xR)
    refine ⟨_, rfl, _, rfl, _, rfl, sm, lc, M.alt n mn mx, ch2, rfl, hSB.up uBR, ok2, hlcB.up uBR, cm2, u12.tabs tab5, fun HS uS => ⟨true, rfl, _, rfl, _, rfl, m, c, M, ch, rfl, hMB.up (uBR.trans uS), ok, hcB.up (uBR.trans uS), cm, (u12.trans uS).tabs tab5, fun HT uT => ?_⟩⟩
    exact q H5 HT st5 ((u12.trans uS).trans uT)
end
end SH
/-! W37 -/
set_option Elab.async false
set_option linter.all false
set_option maxRecDepth 100000
set_option maxHeartbeats 2000000
/-! Promises of defs that raise; a lambda that a parameter holds, called; a promise that sees the state at the call. -/
namespace SH
open PySem PySem.Spec PyProof.Rows L2 LamX NdefX
structure CalX (P : Program) (w : World) (K : Frg) (mg : Str → Option Value) (base : Heap) (k : Nat) (x : Str) (sp : Sp) : Prop where
  ex : ∃ (f : Addr) (fd : FuncData) (ps : List Str), FnOk P w K mg base (L2.CX P w) k f fd ps sp ∧ mg x = some (.ref f) ∧ PySem.W.keepIn K (.ref f) = true ∧ Binds K fd ps []
section
variable {P : Program} {w : World} {K : Frg} {mg : Str → Option Value} {base : Heap}
theorem calX_of {x : Str} {st : Stmt} {N ps : List Str} {k : Nat} {sp : Sp} (D : DefAt K mg x st []) (S : FnScope N ps (defScope st))
    (bd : ∀ (kV doc pm : Value) (an : Option Addr) (cdv ct : Value) (us : List Value), us.length = ps.length → bindArgs (PySem.W.fnOf x x (defArgs st) (defBody st) (defScope st) .none kV doc pm an cdv ct) ⟨us, []⟩ = pure (ps.zip us))
    (len : ∀ vs H Q E, sp vs H Q E → vs.length = ps.length)
    (hb : ∀ (f : Addr) (cdv : Value) (A : Around) (outer : List Env) (s : Shared) (H : Hp) (vs : List V) (Q : VK) (E : XK), Room k (A.deeper (envOfC x (defScope st) s.heap.objs.size f cdv)) → sp vs H Q E → Takes (cxOf (L2.CX P w) P w K mg base N x (defScope st) f cdv A outer s H E) (fun cls d _ H => E cls d H) →
      ∃ t, PSs (cxOf (L2.CX P w) P w K mg base N x (defScope st) f cdv A outer s H E) (defBody st) t ∧ t { nx := fun _ H' => Q .non H', rt := Q } (L2.start N vs) H) : CalX P w K mg base (k + 1) x sp := by
  obtain ⟨f, fd, F, hm⟩ := D
  exact ⟨f, fd, ps, F.ok S len fun cdv A outer s H vs Q E hr hsp => hb f cdv A outer s H vs Q E hr hsp (takes_of rfl rfl rfl rfl), hm, F.kp, F.bindsN bd⟩
end
section
variable {X : Cx} {k j : Nat} {x : Str} {sp : Sp} {p pos : Pos} {e : Expr} {es : List Expr} {t : TA} {W : WX}
theorem pe_cX (c : CalX X.prog X.w X.K X.mg X.base k x sp) (hr : Room j X.A) (hk : k ≤ j) (tk : Takes X W) (ha : PA X (e :: es) t) (hg : Gl X x := by rfl)
    (hdb : (x == ("__debug__" : Str)) = false := by decide) (he : starEach (e :: es) X.env = (false, eval e X.env) :: starEach es X.env := by rfl) (hpl : (backTo pos (starEach es X.env)).any (·.1) = false := by rfl) :
    PE X (.Call (.Name x p) (e :: es) [] pos) (tCallS sp (WE W) t) := by
  obtain ⟨f, fd, ps, F, hm, kp, b⟩ := c.ex
  exact pe_callS F (hr.mono hk) hg hm kp b (passAt tk) ha hdb he hpl
end
/-! ### a lambda held by a local name -/
/-- the call of the lambda at f that slot i holds -/
def tLamL (i : Nat) (f : Addr) (F : LF) (N ps : List Str) (ws : List (Option V)) (E : L2.St → XK) (tb : XK → TE) (t : TA) : TE := fun σ H Q => σ[i]? = some (some (.ref f)) ∧ H f = some (LamO f F) ∧
  t σ H fun vs H1 => vs.length = ps.length ∧ H1 f = some (LamO f F) ∧ H1 F.c = some (CodeO F.c F.qual) ∧ tb (E σ) (startF N vs ws) H1 Q
section
variable {X : Cx} {N ps fr : List Str} {ws : List (Option V)} {F : LF} {f : Addr} {i k : Nat} {x : Str} {W : WX} {t : TA} {tb : XK → TE} {e : Expr} {es : List Expr} {p pos : Pos}
theorem lam_fnAt {pins : List (Addr × Obj)} {σ : L2.St} {H : Hp} {s : Shared} (I : Inv X pins σ H s) (h : H f = some (LamO f F)) : PySem.W.FnAt f s.heap := by
  obtain ⟨pm, ctv, e⟩ := lamO_at I.hok h
  exact ⟨_, _, _, _, e⟩
theorem pe_lamL (S : NScope N ps fr F.scope) (hbd : ∀ (pm ctv : Value) (us : List Value), us.length = ps.length → bindArgs (PySem.W.kla_fn "<lambda>" F.qual F.params F.body F.scope F.cl pm (.ref F.c) ctv) ⟨us, []⟩ = pure (ps.zip us))
    (hr : Room (k + 1) X.A) (C : CellsAt F.cl fr ws X.s_0.heap X.H_0) (nf : ∀ y c, F.cl.lookup y = some c → c ∉ X.fs) (hex : X.ex = []) (tk : Takes X W) (hN : X.N[i]? = some x) (hv : Vis X.env.scope x) (ha : PA X (e :: es) t)
    (hbody : ∀ (A : Around) (outer : List Env) (s : Shared) (H : Hp) (E : XK), Room k (A.deeper (envF F.nf f s.heap.objs.size)) → PE (ncx (L2.CX X.prog X.w) X.prog X.w X.K X.mg X.base N F.nf f A outer s H E) F.body (tb E))
    (hd : (x == ("__debug__" : Str)) = false := by decide) (hcd : (x == ("__classdict__" : Str)) = false := by decide)
    (he : starEach (e :: es) X.env = (false, eval e X.env) :: starEach es X.env := by rfl) (hpl : (backTo pos (starEach es X.env)).any (·.1) = false := by rfl) :
    PE X (.Call (.Name x p) (e :: es) [] pos) (tLamL i f F N ps ws (WE W) tb t) := by
  refine ⟨fun pins s σ H Q I h => ?_⟩
  obtain ⟨hs, hf, ht⟩ := h
  refine wpAny_Call_Name_kw (thn ((pe_var (pos := p) hN hv hd hcd).run pins s σ H (fun v H1 => v = .ref f ∧ H1 = H) I ⟨.ref f, hs, rfl, rfl⟩) fun u s1 ⟨v, H1, I1, r1, q1⟩ => ?_)
  obtain ⟨ev, eH⟩ := q1
  subst ev
  rw [eH] at I1
  obtain rfl : u = Value.ref f := r1
  refine PySem.W.callWith_F (first := []) (lam_fnAt I1 hf) (thn (ha.run pos pins s1 σ H _ I1 ht) fun us s2 ⟨vs, H2, I2, r, hl, h1, h2, q⟩ => ⟨lam_fnAt I2 h1, ?_⟩) he hpl
  show wpAny _ _ (call (.ref f) us) _ _ _
  have C2 : CellsAt F.cl fr ws s2.heap H2 := C.later nf (fun y c _ z => by rw [hex] at z; cases z) I2
  refine wpAny_call (codeAny_mono (lam_run (CX := L2.CX X.prog X.w) (E := WE W σ) (Q := Q) S hbd hr I2.env0 h1 h2 C2 r hl (fun hr' => ⟨tb (WE W σ), hbody X.A X.stack s2 H2 (WE W σ) hr', q⟩)) fun r s' hq => ?_)
  cases r with
  | error e => exact passAt tk σ pins H2 s2 e s' I2 hq
  | ok fl =>
    cases fl with
    | ret u => exact I2.after hq
    | next => exact False.elim hq
    | brk => exact False.elim hq
    | cont => exact False.elim hq
end
/-! ### a promise that sees the frames outside and the state at the call -/
abbrev SpS := List Env → Shared → Sp
structure FnOkS (P : Program) (w : World) (K : Frg) (mg : Str → Option Value) (base : Heap) (CX : CXT) (k : Nat) (f : Addr) (fd : FuncData) (ps : List Str) (sp : SpS) : Prop where
  len : ∀ o s vs H Q E, sp o s vs H Q E → vs.length = ps.length
  run : ∀ (A : Around) (outer : List Env) (s : Shared) (H : Hp) (args : Args) (us : List Value) (vs : List V) (Q : VK) (E : XK), Room k A → Env0 P w K mg base A outer s H → BindsTo s fd args (ps.zip us) → Vals vs us → sp outer s vs H Q E →
    codeAny (model P w) A (.call (.ref f) args) (CR CX outer P w H s Q E) s
structure CalS (P : Program) (w : World) (K : Frg) (mg : Str → Option Value) (base : Heap) (k : Nat) (x : Str) (sp : SpS) : Prop where
  ex : ∃ (f : Addr) (fd : FuncData) (ps : List Str), FnOkS P w K mg base CX0 k f fd ps sp ∧ mg x = some (.ref f) ∧ PySem.W.keepIn K (.ref f) = true ∧ Binds K fd ps []
section
variable {P : Program} {w : World} {K : Frg} {mg : Str → Option Value} {base : Heap}
theorem calS_of {x : Str} {st : Stmt} {N ps : List Str} {k : Nat} {sp : SpS} (D : DefAt K mg x st []) (S : FnScope N ps (defScope st))
    (bd : ∀ (kV doc pm : Value) (an : Option Addr) (cdv ct : Value) (us : List Value), us.length = ps.length → bindArgs (PySem.W.fnOf x x (defArgs st) (defBody st) (defScope st) .none kV doc pm an cdv ct) ⟨us, []⟩ = pure (ps.zip us))
    (len : ∀ o s vs H Q E, sp o s vs H Q E → vs.length = ps.length)
    (hb : ∀ (f : Addr) (cdv : Value) (A : Around) (outer : List Env) (s : Shared) (H : Hp) (vs : List V) (Q : VK) (E : XK), Room k (A.deeper (envOfC x (defScope st) s.heap.objs.size f cdv)) → sp outer s vs H Q E →
      ∃ t, PSs (cxOf CX0 P w K mg base N x (defScope st) f cdv A outer s H E) (defBody st) t ∧ t { nx := fun _ H' => Q .non H', rt := Q } (L2.start N vs) H) : CalS P w K mg base (k + 1) x sp := by
  obtain ⟨f, fd, F, hm⟩ := D
  refine ⟨f, fd, ps, ⟨len, fun A outer s H args us vs Q E hr e0 hbd r hsp => ?_⟩, hm, F.kp, F.bindsN bd⟩
  obtain ⟨oc, od, dV, kV, doc, pm, an, cdv, ct, osl, rfl, lk, hcd, _, _⟩ := F.ex
  refine run_ofS (N := N) lk hcd S hr e0 hbd r (len _ _ _ _ _ _ hsp) fun hr' => ?_
  exact hb f cdv A outer s H vs Q E hr' hsp
end
/-- f(..) of such a def: what its promise asks is shown of every state of ours -/
def tCallSS (spH : Sp) (t : TA) : TE := fun σ H Q => t σ H fun vs H1 => spH vs H1 Q E0
end SH
/-! W38 -/
set_option Elab.async false
set_option linter.all false
set_option maxRecDepth 100000
set_option maxHeartbeats 2000000
/-! Exceptions: made, raised, caught. -/
namespace SH
open PySem PySem.Spec PyProof.Rows L2 LamX NdefX
/-- an own exception class that keeps a field -/
structure ExcC (P : Program) (w : World) (K : Frg) (mg : Str → Option Value) (base : Heap) (x : Str) (C : Addr) (fld : Str) : Prop where
  o : OexC K C
  f : XfC K C
  no : PySem.W.findIn K (.ref C) fld = some none
  g : mg x = some (.ref C)
  i : ∃ (fI : Addr) (fd : FuncData) (ps : List Str), PySem.W.findIn K (.ref C) "__init__" = some (some (.ref fI)) ∧ PySem.W.typeIn K (.ref fI) = some (.type "function") ∧ FnOk P w K mg base CX0 1 fI fd ps (spXI C fld) ∧ Binds K fd ps []
structure T4 (P : Program) (w : World) (K : Frg) (mg : Str → Option Value) (base : Heap) : Prop where
  nc : ExcC P w K mg base "NotChart" (cNC K) "value"
  up : ExcC P w K mg base "UnknownPlace" (cUP K) "name"
  se : mg "SurveyError" = some (.ref (cSE K))
  x1 : PySem.W.exmOne K (.ref (cNC K)) (.ref (cNC K)) = some true
  x2 : PySem.W.exmOne K (.ref (cUP K)) (.ref (cNC K)) = some false
  x3 : PySem.W.exmOne K (.ref (cUP K)) (.ref (cUP K)) = some true
  k1 : PySem.W.kitOne K (.type "NoneType") (.ref (cC K)) = some false
  k2 : PySem.W.kitOne K (.type "int") (.ref (cC K)) = some false
  k3 : PySem.W.kitOne K (.type "list") (.ref (cC K)) = some false
  k4 : PySem.W.kitOne K (.type "dict") (.ref (cC K)) = some false
  k5 : PySem.W.kitOne K (.type "str") (.ref (cC K)) = some false
  k6 : PySem.W.kitOne K (.ref (cL K)) (.ref (cC K)) = some false
  k7 : PySem.W.kitOne K (.ref (cL K)) (.type "bool") = some false
section
variable {X : Cx} {x : Str} {C : Addr} {fld : Str} {p pos : Pos} {e : Expr} {es : List Expr} {ta : TA}
theorem pmk_ex (T : ExcC X.prog X.w X.K X.mg X.base x C fld) (hr : Room 2 X.A) (ha : PA X (e :: es) ta) (hg : Gl X x := by rfl) (hdb : (x == ("__debug__" : Str)) = false := by decide)
    (he : starEach (e :: es) X.env = (false, eval e X.env) :: starEach es X.env := by rfl) (hpl : (backTo pos (starEach es X.env)).any (·.1) = false := by rfl) :
    PMk X (.Call (.Name x p) (e :: es) [] pos) (tMkO C (spXI C fld) [] ta) := by
  obtain ⟨fI, fd, ps, iC, tI, F, b⟩ := T.i
  exact pmk_oex T.o iC tI F hr b .nil pass0 hg T.g ha hdb he hpl
theorem mkO_of {K : Frg} {C : Addr} {fld : Str} {y : V} {H1 : Hp} {Q : XK} (h : ∀ d, H1 d = none → Q (.ref C) (some d) (upd H1 d (.xd [(fld, y)]))) :
    [y].length ≤ 1000 ∧ ∀ a, H1 a = none → spXI C fld (.ref a :: ([y] ++ [])) (upd H1 a (exo a C none))
      (fun v H2 => v = .non ∧ ∃ (d : Addr) (fs : List (Str × V)), H2 a = some (exo a C (some d)) ∧ H2 d = some (exd d fs) ∧ H1 d = none ∧ Q (.ref C) (some d) (upd (del H2 a) d (.xd fs))) (fun _ _ _ => False) := by
  refine ⟨by simp, fun a ha => ⟨a, y, rfl, upd_same, fun dx h1 h2 => ⟨rfl, dx, _, upd_same, by rw [upd_ne h2, upd_same], ?_, ?_⟩⟩⟩
  · rw [upd_ne h2] at h1; exact h1
  · have h1' : H1 dx = none := by rw [upd_ne h2] at h1; exact h1
    have e : upd (del (upd (upd (upd H1 a (exo a C none)) dx (exd dx [(fld, y)])) a (exo a C (some dx))) a) dx (.xd [(fld, y)]) = upd H1 dx (.xd [(fld, y)]) := by
      funext b
      by_cases c : b = dx
      · rw [c, upd_same, upd_same]
      · rw [upd_ne c, upd_ne c]
        by_cases c2 : b = a
        · rw [c2, del_same, ha]
        · rw [del_ne c2, upd_ne c2, upd_ne c, upd_ne c2]
    rw [e]
    exact h dx h1'
end
section
variable {P : Program} {w : World} {K : Frg} {mg : Str → Option Value} {base : Heap}
/-- no chart -/
def NoCh (K : Frg) (H : Hp) (v : V) : Prop := ∃ tv, TyX K H v tv ∧ PySem.W.kitOne K tv (.ref (cC K)) = some false
/-- no place of the chart -/
def NoPl (K : Frg) (H : Hp) (ch : Ch) (v : V) : Prop := (∃ n, v = .str n ∧ n ∉ ch.names) ∨ ∃ ty, TyX K H v (.type ty) ∧ kitB ty "str" = some false
def spNCX (K : Frg) : Sp := fun vs H Q E => ∃ v, vs = [v] ∧ ((∃ (a dx : Addr) (fs : List (Str × V)), v = .ref a ∧ H a = some (.ins (cC K) dx fs) ∧ Q .non H) ∨ (NoCh K H v ∧ ∀ d, H d = none → E (.ref (cNC K)) (some d) (upd H d (.xd [("value", v)]))))
theorem cx_need_chart (t : T K mg) (t4 : T4 P w K mg base) : CalX P w K mg base 3 "need_chart" (spNCX K) := by
  refine calX_of t.d_need_chart sc_NeedC (fun _ _ _ _ _ _ us hl => match us, hl with | [_], _ => rfl) (fun vs H Q E h => ?_) (fun f cdv A outer s H vs Q E hr h tk => ?_)
  · obtain ⟨a, rfl, _⟩ := h
    rfl
  · obtain ⟨v, rfl, h⟩ := h
    refine ⟨_, pss_one (ps_if (pt_not (pt_val (bIsi t.n_isinstance (pa_cons (pv 0) (pa_cons (gcl t.gC) pa_nil))))) (pss_one (ps_raise rfl tk (pmk_ex t4.nc hr (pa_cons (pv 0) pa_nil)))) pss_nil), ?_⟩
    rcases h with ⟨a, dx, fs, rfl, e, q⟩ | ⟨⟨tv, hty, hk⟩, q⟩
    · exact ⟨_, rfl, _, _, _, _, true, rfl, .own _, ty_ins e t.clC t.oiC, kit_self, _, rfl, q⟩
    · exact ⟨_, rfl, _, _, _, _, false, rfl, .own _, hty, hk, _, rfl, _, rfl, mkO_of (K := K) q⟩
def spNPX (K : Frg) : Sp := fun vs H Q E => ∃ (a : Addr) (v : V) (ch : Ch), vs = [.ref a, v] ∧ ChartAt K H a ch ∧ NoPl K H ch v ∧ ∀ d, H d = none → E (.ref (cUP K)) (some d) (upd H d (.xd [("name", v)]))
theorem cx_need_place (t : T K mg) (t4 : T4 P w K mg base) : CalX P w K mg base 3 "need_place" (spNPX K) := by
  refine calX_of t.d_need_place sc_NeedP (fun _ _ _ _ _ _ us hl => match us, hl with | [_, _], _ => rfl) (fun vs H Q E h => ?_) (fun f cdv A outer s H vs Q E hr h tk => ?_)
  · obtain ⟨a, _, _, rfl, _⟩ := h
    rfl
  · obtain ⟨a, v, ch, rfl, hc, h, q⟩ := h
    obtain ⟨dx, dh, dp, dd, dn, e, _⟩ := id hc
    refine ⟨_, pss_one (ps_if (pt_cmpR (op_notInC (m_CIn t) (hr.mono (by decide))) (pv 1) (pv 0) rfl) (pss_one (ps_raise rfl tk (pmk_ex t4.up hr (pa_cons (pv 1) pa_nil)))) pss_nil), ?_⟩
    refine ⟨_, rfl, _, rfl, a, dx, _, rfl, e, a, _, ch, rfl, hc, ?_⟩
    have fin : ∀ b, b = false → ∃ b', V.bl b = V.bl b' ∧ (∃ k, V.bl (if true = true then !b' else b') = .bl k ∧ True) := fun b _ => ⟨b, rfl, _, rfl, trivial⟩
    rcases h with ⟨n, rfl, hn⟩ | ⟨ty, hty, hk⟩
    · exact .inl ⟨n, rfl, false, by rw [decide_eq_false hn], _, rfl, _, rfl, mkO_of (K := K) q⟩
    · exact .inr ⟨ty, hty, hk, false, rfl, _, rfl, _, rfl, mkO_of (K := K) q⟩
def spEscX (K : Frg) : Sp := fun vs H Q E => (∃ v, vs = [v, .non] ∧ NoCh K H v ∧ ∀ d, H d = none → E (.ref (cNC K)) (some d) (upd H d (.xd [("value", v)]))) ∨
  ∃ (a : Addr) (v : V) (ch : Ch), vs = [.ref a, v] ∧ ChartAt K H a ch ∧ NoPl K H ch v ∧ ∀ d, H d = none → E (.ref (cUP K)) (some d) (upd H d (.xd [("name", v)]))
theorem cx_escape (t : T K mg) (t4 : T4 P w K mg base) : CalX P w K mg base 4 "escape" (spEscX K) := by
  refine calX_of t.d_escape sc_Esc (fun _ _ _ _ _ _ us hl => match us, hl with | [_, _], _ => rfl) (fun vs H Q E h => ?_) (fun f cdv A outer s H vs Q E hr h tk => ?_)
  · rcases h with ⟨_, rfl, _⟩ | ⟨_, _, _, rfl, _⟩ <;> rfl
  · refine ⟨_, pss_cons (ps_expr (pe_cX (cx_need_chart t t4) hr (by decide) tk (pa_cons (pv 0) pa_nil)))
      (pss_cons (ps_expr (pe_cX (cx_need_place t t4) hr (by decide) tk (pa_cons (pv 0) (pa_cons (pv 1) pa_nil))))
      (pss_cons ps_never (pss_cons ps_never (pss_one ps_never)))), ?_⟩
    rcases h with ⟨v, rfl, hv, q⟩ | ⟨a, v, ch, rfl, hc, hv, q⟩
    · exact ⟨_, rfl, v, rfl, .inr ⟨hv, q⟩⟩
    · obtain ⟨dx, fs, e⟩ := hc.ex
      exact ⟨_, rfl, .ref a, rfl, .inl ⟨a, dx, fs, rfl, e, ⟨_, rfl, _, rfl, a, v, ch, rfl, hc, hv, q⟩⟩⟩
end
end SH
/-! W39 -/
set_option Elab.async false
set_option linter.all false
set_option maxRecDepth 100000
set_option maxHeartbeats 2000000
/-! _law_caught. -/
namespace SH
open PySem PySem.Spec PyProof.Rows L2 LamX NdefX
/-- a lambda of one parameter by its words -/
structure LamP (P : Program) (w : World) (K : Frg) (mg : Str → Option Value) (base : Heap) (k : Nat) (qual : Str) (params : Arguments) (body : Expr) (scope : Scope) (N : List Str) (x : Str) (fr : List Str) (tb : XK → TE) : Prop where
  S : NScope N [x] fr scope
  bd : ∀ (cl : List (Str × Addr)) (pm cv ctv : Value) (us : List Value), us.length = [x].length → bindArgs (PySem.W.kla_fn "<lambda>" qual params body scope cl pm cv ctv) ⟨us, []⟩ = pure ([x].zip us)
  run : ∀ (cl : List (Str × Addr)) (c f : Addr) (A : Around) (outer : List Env) (s : Shared) (H : Hp) (E : XK), Room k (A.deeper (envF (LF.nf ⟨qual, params, body, scope, cl, c⟩) f s.heap.objs.size)) → PE (ncx (L2.CX P w) P w K mg base N (LF.nf ⟨qual, params, body, scope, cl, c⟩) f A outer s H E) body (tb E)
def cXk (K : Frg) (b : Bool) : Addr := if b = true then cNC K else cUP K
def fXk (b : Bool) : Str := if b = true then "value" else "name"
def wXk (b : Bool) : Str := if b = true then "NotChart" else "UnknownPlace"
/-- the two kinds of errors -/
def spCaught (K : Frg) (qual : Str) (params : Arguments) (body : Expr) (scope : Scope) (N : List Str) (fr : List Str) (tb : XK → TE) : SpS := fun outer s vs H Q _ => ∃ (f : Addr) (v : V) (cl : List (Str × Addr)) (c : Addr) (ws : List (Option V)) (b : Bool),
  vs = [.ref f, v] ∧ H f = some (LamO f ⟨qual, params, body, scope, cl, c⟩) ∧ H c = some (CodeO c qual) ∧ CellsAt cl fr ws s.heap H ∧ (∀ y a, cl.lookup y = some a → a ∉ frs outer) ∧
  (∀ (E' : XK) (Q' : VK), (∀ dd H', Up K H H' → H' dd = some (.xd [(fXk b, v)]) → E' (.ref (cXk K b)) (some dd) H') → tb E' (startF N [v] ws) H Q') ∧
  (∀ p H', Up K H H' → H' p = some (.lst [.str (wXk b), v]) → Q (.ref p) H')
abbrev nCt : List Str := ["_law_ask", "_law_it", "e"]
theorem sc_Ct : FnScope nCt ["_law_ask", "_law_it"] (defScope s_law_caught) := sc_of
section
variable {P : Program} {w : World} {K : Frg} {mg : Str → Option Value} {base : Heap} {qual : Str} {params : Arguments} {body : Expr} {scope : Scope} {N fr : List Str} {x : Str} {tb : XK → TE}
theorem cs_caught (t : T K mg) (t4 : T4 P w K mg base) (L : LamP P w K mg base 5 qual params body scope N x fr tb) : CalS P w K mg base 7 "_law_caught" (spCaught K qual params body scope N fr tb) := by
  refine calS_of t.d_law_caught sc_Ct (fun _ _ _ _ _ _ us hl => match us, hl with | [_, _], _ => rfl) (fun o s vs H Q E h => ?_) (fun f cdv A outer s H vs Q E hr h => ?_)
  · obtain ⟨_, _, _, _, _, _, rfl, _⟩ := h
    rfl
  · obtain ⟨lf, v, cl, c, ws, b, rfl, ef, ec, C, nf, hb, q⟩ := h
    have nd := sc_Ct.nd
    have hne1 : PySem.W.findIn K (.ref (cNC K)) "value" = some none := t4.nc.no
    have hne2 : PySem.W.findIn K (.ref (cUP K)) "name" = some none := t4.up.no
    refine ⟨_, pss_one (ps_try_asmany (Wout := fun _ _ _ _ => False) nd rfl rfl takes0 (fun W pn xe tk _ => pss_one (ps_ret (pe_lst (pa_cons pe_str (pa_cons (pe_lamL (F := ⟨qual, params, body, scope, cl, c⟩) (f := lf) (i := 0) (k := 5) L.S (fun pm ctv us hl => L.bd _ _ _ _ _ hl) (hr.mono (by decide)) C nf rfl tk rfl (Or.inl rfl) (pa_cons (pv 1) pa_nil) (fun A outer s H E hr' => L.run cl c lf A outer s H E hr')) pa_nil)))))
      (HdsOkA.named (i := 2) (c := .ref (cNC K)) ⟨rfl, by decide, .inl t4.nc.g⟩ rfl rfl (fun a oe cls d pn hz hf => pss_one (ps_ret (pe_lst (pa_cons pe_str (pa_cons (pe_xf t4.nc.f hne1 hz hf (pv 2)) pa_nil)))))
      (HdsOkA.named (i := 2) (c := .ref (cUP K)) ⟨rfl, by decide, .inl t4.up.g⟩ rfl rfl (fun a oe cls d pn hz hf => pss_one (ps_ret (pe_lst (pa_cons pe_str (pa_cons (pe_xf t4.up.f hne2 hz hf (pv 2)) pa_nil)))))
      (HdsOkA.cons (c := .ref (cSE K)) ⟨rfl, by decide, .inl t4.se⟩ (fun a oe cls d pn hz hf => pss_one ps_never) HdsOkA.nil)))), ?_⟩
    refine ⟨rfl, ef, _, rfl, rfl, ef, ec, hb _ _ fun dd H' u e => ?_⟩
    cases b with
    | true => exact ⟨true, t4.x1, fun _ a ha => ⟨_, rfl, rfl, rfl, dd, _, v, rfl, e, rfl, line2, fun p hp => q p _ (u.add hp) upd_same⟩, fun z => by cases z⟩
    | false => exact ⟨false, t4.x2, (fun z => by cases z), fun _ => ⟨true, t4.x3, fun _ a ha => ⟨_, rfl, rfl, rfl, dd, _, v, rfl, e, rfl, line2, fun p hp => q p _ (u.add hp) upd_same⟩, fun z => by cases z⟩⟩
end
end SH
/-! W40 -/
set_option Elab.async false
set_option linter.all false
set_option maxRecDepth 100000
set_option maxHeartbeats 2000000
/-! a value == itself; _law_is. -/
namespace SH
open PySem PySem.Spec PyProof.Rows L2 LamX NdefX
theorem hits_refs {κ : Type} [DecidableEq κ] {A : Around} {s : Shared} {kvs : List (κ × V)} {vb : List (κ × Value)} (rb : KV kvs vb) {ks : List (κ × V)} {va : List (κ × Value)} (ra : KV ks va) :
    (∀ p ∈ ks, valV kvs p.1 = some p.2 ∧ ∃ a, p.2 = V.ref a) → PySem.W.KeqHits A s vb va true := by
  unfold KV at ra
  induction ra with
  | nil => intro _; exact .nil
  | @cons p q ps qs h t ih =>
    intro hp
    obtain ⟨h1, h2⟩ := h
    obtain ⟨e, a, f⟩ := hp p List.mem_cons_self
    have rr : RelO (some p.2) (valueAt vb p.1) := by rw [← e]; exact rb.val p.1
    obtain ⟨y, hy, ry⟩ := rr.some_of
    obtain ⟨k, v⟩ := q
    have h1' : p.1 = k := h1
    rw [h1'] at hy
    rw [f] at h2 ry
    obtain rfl : v = Value.ref a := h2
    obtain rfl : y = Value.ref a := ry
    show PySem.W.KeqHits A s vb ((k, .ref a) :: qs) (true && true)
    exact .hit hy (SeqAt.EqAt.same _) (ih fun p' hm => hp p' (List.mem_cons_of_mem _ hm))
section
variable {X : Cx}
/-- a dict of objects == itself -/
def rEqDR : R2 := fun x y H Q => ∃ a ks, x = .ref a ∧ y = .ref a ∧ H a = some (.dK ks) ∧ (∀ p ∈ ks, valV ks p.1 = some p.2 ∧ ∃ b, p.2 = V.ref b) ∧ Q (.bl true) H
theorem op_eq_dictR (hu : X.A.units < cLine) : OpR X (compareOp .Eq) rEqDR := by
  intro pins s σ H x y v u Q I rx ry h
  obtain ⟨a, ks, rfl, rfl, ea, hp, q⟩ := h
  obtain rfl : v = Value.ref a := rx
  obtain rfl : u = Value.ref a := ry
  obtain ⟨_, ya, va, ra, da⟩ := (show ObjOk X.prog X.w H s.heap a (.dK ks) from I.hok a _ ea)
  exact PySem.W.keq_eq (knd := mixKind X.prog X.w) (r := true) ya ya da da hu (fun _ => hits_refs ra ra hp) (fin_bl I q (by simp))
end
section
variable {P : Program} {w : World} {K : Frg} {mg : Str → Option Value} {base : Heap}
/-- a chart == itself -/
def REqCS (K : Frg) (a b : Addr) (H : Hp) : Prop := a = b ∧ ∃ ch, ChartAt K H a ch ∧ ch.Ok
theorem m_CEqS (t : T K mg) : Met P w K mg base 3 (cC K) "__eq__" (spEq (REqCS K)) := by
  refine met_of t.clC t.d_Chart_eq sc_CEq (fun _ _ _ _ _ _ us hl => match us, hl with | [_, _], _ => rfl) (fun vs H Q E h => ?_) (fun f cdv A outer s H vs Q E hr h => ?_)
  · obtain ⟨a, b, rfl, _⟩ := h
    rfl
  · obtain ⟨a, _, rfl, ⟨rfl, ch, hc, ok⟩, q⟩ := h
    have h64 := hr.units
    obtain ⟨dx, dh, dp, dd, dn, e1, ⟨bd, h1, hb⟩, h3, h5, _⟩ := id hc
    refine ⟨_, pss_one (ps_ret (pe_and (bIsi t.n_isinstance (pa_cons (pv 1) (pa_cons (gcl t.gC) pa_nil)))
      (pe_and (pe_cmpR (op_eq_dictR hr.units0) (pe_fld (pv 0) rfl) (pe_fld (pv 1) rfl) (nomark _))
      (pe_and (pe_cmpR (op_eqD h64) (pe_fld (pv 0) rfl) (pe_fld (pv 1) rfl) (nomark _)) (pe_one (pe_cmpR (op_eqD h64) (pe_fld (pv 0) rfl) (pe_fld (pv 1) rfl) (nomark _))))))), ?_⟩
    have as := fun p hp => (⟨(ok.good _ (ok.pin p hp).1).ascii, (ok.good _ (ok.pin p hp).2.1).ascii⟩ : Ascii p.1 ∧ Ascii p.2)
    have as2 := fun d hd => (ok.good _ (ok.din d hd)).ascii
    refine ⟨_, rfl, _, _, _, _, true, rfl, .own _, ty_ins e1 t.clC t.oiC, kit_self, _, rfl, ?_⟩
    refine ⟨_, rfl, a, _, dx, _, _, rfl, e1, t.clC, t.aC_held, rfl, _, rfl, a, _, dx, _, _, rfl, e1, t.clC, t.aC_held, rfl, dh, _, rfl, rfl, h1, fun p hp => ?_, true, rfl, ?_⟩
    · obtain ⟨i, hi⟩ := List.mem_iff_getElem?.mp hp
      obtain ⟨n, hn, k1, k2⟩ := mp_get (k := p.1) (v := p.2) hi
      rw [k1, k2]
      exact ⟨valV_in (f := fun n => V.ref (bd n)) (List.mem_of_getElem? hn), _, rfl⟩
    refine ⟨_, rfl, a, _, dx, _, _, rfl, e1, t.clC, t.aC_pairs, rfl, _, rfl, a, _, dx, _, _, rfl, e1, t.clC, t.aC_pairs, rfl, dP ch.pairs, dP ch.pairs, dp_pairs h3, dp_pairs h3, shaped_dP as, shaped_dP as, true, ?_, ?_⟩
    · rw [SeqAt.eqv_refl _ (canLay_dP as)]
    · refine ⟨_, rfl, a, _, dx, _, _, rfl, e1, t.clC, t.aC_drains, rfl, _, rfl, a, _, dx, _, _, rfl, e1, t.clC, t.aC_drains, rfl, dS ch.drains, dS ch.drains, dp_strs h5, dp_strs h5, shaped_dS as2, shaped_dS as2, ?_⟩
      rw [SeqAt.eqv_refl _ (canLay_dS as2)]
      exact q _ (fun _ _ h => h)
/-- a land == itself -/
def REqLS (K : Frg) (a b : Addr) (H : Hp) : Prop := a = b ∧ ∃ c ch hs, LandC K H a c ch hs ∧ ch.Ok
theorem m_LEqS (t : T K mg) : Met P w K mg base 4 (cL K) "__eq__" (spEq (REqLS K)) := by
  refine met_of t.clL t.d_Land_eq sc_LEq (fun _ _ _ _ _ _ us hl => match us, hl with | [_, _], _ => rfl) (fun vs H Q E h => ?_) (fun f cdv A outer s H vs Q E hr h => ?_)
  · obtain ⟨a, b, rfl, _⟩ := h
    rfl
  · obtain ⟨a, _, rfl, ⟨rfl, c, ch, hs, hl, ok⟩, q⟩ := h
    have hu := hu_of hr
    obtain ⟨dx, d, e1, hc, hd⟩ := id hl
    obtain ⟨cx, fs, ec⟩ := hc.ex
    refine ⟨_, pss_one (ps_ret (pe_and (bIsi t.n_isinstance (pa_cons (pv 1) (pa_cons (gcl t.gL) pa_nil)))
      (pe_and (pe_cmpR (op_eqG (rc_ins (m_CEqS t)) hr) (pe_fld (pv 0) rfl) (pe_fld (pv 1) rfl) (nomark _)) (pe_one (pe_cmpR (op_eq_dictA hr.units0) (pe_fld (pv 0) rfl) (pe_fld (pv 1) rfl) (nomark _)))))), ?_⟩
    refine ⟨_, rfl, _, _, _, _, true, rfl, .own _, ty_ins e1 t.clL t.oiL, kit_self, _, rfl, ?_⟩
    refine ⟨_, rfl, a, _, dx, _, _, rfl, e1, t.clL, t.aL_chart, rfl, _, rfl, a, _, dx, _, _, rfl, e1, t.clL, t.aL_chart, rfl, ⟨c, c, cx, cx, _, _, rfl, rfl, ec, ec, rfl, ch, hc, ok⟩, fun H' x => ⟨true, rfl, ?_⟩⟩
    refine ⟨_, rfl, a, _, dx, _, _, rfl, x _ _ e1, t.clL, t.aL_by_name, rfl, _, rfl, a, _, dx, _, _, rfl, x _ _ e1, t.clL, t.aL_by_name, rfl, d, d, _, _, rfl, rfl, x _ _ hd, x _ _ hd, rfl, fun p hp => ?_, q _ x⟩
    obtain ⟨i, hi⟩ := List.mem_iff_getElem?.mp hp
    obtain ⟨n, hn, h1, h2⟩ := mp_get (k := p.1) (v := p.2) hi
    rw [h1, h2]
    exact ⟨valV_in (f := fun n => V.int (hs n)) (List.mem_of_getElem? hn), rfl⟩
/-- what is equal to itself -/
inductive EqS (K : Frg) (H : Hp) : V → Prop
  | sc {v : V} (h : scal v v = true) : EqS K H v
  | ls {a : Addr} (e : SqL K H a []) : EqS K H (.ref a)
  | tp {a : Addr} (e : SqT K H a []) : EqS K H (.ref a)
  | dc {a : Addr} (e : H a = some (.dK [])) : EqS K H (.ref a)
  | ld {a c : Addr} {ch : Ch} {hs : Str → Int} (e : LandC K H a c ch hs) (ok : ch.Ok) : EqS K H (.ref a)
end
section
variable {X : Cx}
def rEqS (K : Frg) : R2 := fun x y H Q => x = y ∧ EqS K H x ∧ ∀ H', Ext H H' → Q (.bl true) H'
theorem op_eqS (t : T X.K X.mg) (hr : Room 6 X.A) : OpR X (compareOp .Eq) (rEqS X.K) := by
  intro pins s σ H x y v u Q I rx ry h
  obtain ⟨rfl, hs, q⟩ := h
  have qq := q H (fun _ _ h => h)
  have h64 := hr.units
  cases hs with
  | sc h => exact op_eq pins s σ H _ _ v u Q I rx ry ⟨h, by rw [decide_eq_true rfl]; exact qq⟩
  | ls e => exact op_eqD h64 pins s σ H _ _ v u Q I rx ry ⟨.list [], .list [], .lst e .nil, .lst e .nil, shaped_nil, shaped_nil, by rw [eqv_nil]; exact qq⟩
  | tp e => exact op_eqD h64 pins s σ H _ _ v u Q I rx ry ⟨.tuple [], .tuple [], .tup e .nil, .tup e .nil, by decide, by decide, by rw [show PyData.eqv (.tuple []) (.tuple []) = true by decide]; exact qq⟩
  | dc e => exact op_eq_dictR hr.units0 pins s σ H _ _ v u Q I rx ry ⟨_, _, rfl, rfl, e, fun p hp => by simp at hp, qq⟩
  | ld e ok =>
    obtain ⟨dx, fs, e1⟩ := e.ex
    exact op_eqG (rc_ins (m_LEqS t)) (hr.mono (by decide)) pins s σ H _ _ v u Q I rx ry ⟨⟨_, _, _, _, _, _, rfl, rfl, e1, e1, rfl, _, _, _, e, ok⟩, fun H' x => q H' x⟩
end
section
variable {P : Program} {w : World} {K : Frg} {mg : Str → Option Value} {base : Heap}
def spIs (K : Frg) : Sp := fun vs H Q _ => ∃ (l : Addr) (wd : Str) (v : V), vs = [.ref l, .str wd, v] ∧ H l = some (.lst [.str wd, v]) ∧ EqS K H v ∧ (∃ tv b, TyX K H v tv ∧ PySem.W.kitOne K tv (.type "bool") = some b) ∧ ∀ H', Up K H H' → Q (.bl true) H'
theorem sc_Is : FnScope ["_law_found", "_law_word", "_law_odd"] ["_law_found", "_law_word", "_law_odd"] (defScope s_law_is) := sc_of
theorem c_is (t : T K mg) : Cal P w K mg base 7 "_law_is" (spIs K) [] := by
  refine cal_of t.d_law_is sc_Is (fun _ _ _ _ _ _ us hl => match us, hl with | [_, _, _], _ => rfl) (fun vs H Q E h => ?_) (fun f cdv A outer s H vs Q E hr h => ?_)
  · obtain ⟨_, _, _, rfl, _⟩ := h
    rfl
  · obtain ⟨l, wd, v, rfl, el, hs, ⟨tv, b, hty, hk⟩, q⟩ := h
    refine ⟨_, pss_cons (ps_if (PW.pt (pw_or (pt_cmpR op_ne (cb call_len_seq t.n_len (pa_cons (pv 0) pa_nil)) pe_int (nomark _)) (pw_or (pt_cmpR op_ne (pe_ix ix_list (pv 0) pe_int (fun _ _ => rfl)) (pv 1) (nomark _))
        (pw_or1 (pt_cmpR op_ne (bIsi t.n_isinstance (pa_cons (pe_ix ix_list (pv 0) pe_int (fun _ _ => rfl)) (pa_cons (tyn (n := "bool") t.n_bool) pa_nil))) (bIsi t.n_isinstance (pa_cons (pv 2) (pa_cons (tyn (n := "bool") t.n_bool) pa_nil))) (nomark _)))))) (pss_one (ps_ret pe_bl)) pss_nil)
      (pss_one (ps_ret (pe_cmpR (op_eqS t hr) (pe_ix ix_list (pv 0) pe_int (fun _ _ => rfl)) (pv 2) (nomark _)))), ?_⟩
    have sl := SqL.of (K := K) el
    refine ⟨_, rfl, l, _, rfl, .inl sl, rfl, false, by simp, ?_⟩
    refine ⟨_, rfl, l, _, ((0 : Nat) : Int), .str wd, rfl, rfl, sl, atI_nat rfl, _, rfl, rfl, false, by simp, ?_⟩
    refine ⟨_, rfl, l, _, ((1 : Nat) : Int), v, rfl, rfl, sl, atI_nat rfl, v, _, tv, _, b, rfl, .ty _, hty, hk, _, rfl, v, _, tv, _, b, rfl, .ty _, hty, hk, rfl, false, by simp, ?_⟩
    refine ⟨_, rfl, l, _, ((1 : Nat) : Int), v, rfl, rfl, sl, atI_nat rfl, _, rfl, rfl, hs, fun H' x => q H' (Up.all x)⟩
end
end SH
/-! W41 -/
set_option Elab.async false
set_option linter.all false
set_option maxRecDepth 100000
set_option maxHeartbeats 2000000
/-! _law_caught(lambda .., e) within a def; _law_refusals_right. -/
namespace SH
open PySem PySem.Spec PyProof.Rows L2 LamX NdefX
section
variable {X : Cx} {params : Arguments} {body : Expr} {scope : Scope} {N fr : List Str} {js : List Nat} {x : Str} {tb : XK → TE} {te : TE} {e : Expr} {lpos p pos : Pos} {j : Nat}
def tCaught (X : Cx) (params : Arguments) (body : Expr) (scope : Scope) (N : List Str) (js : List Nat) (tb : XK → TE) (te : TE) : TE := fun σ H Q => tCons (tLamE (TT X.K) (mkL X params body scope)) (tCons te tNil) σ H fun vs H2 => ∃ (f c' : Addr) (v : V), vs = [.ref f, v] ∧ H2 f = some (LamO f (mkL X params body scope c')) ∧ H2 c' = some (CodeO c' (mkL X params body scope c').qual) ∧ ∃ b : Bool,
    (∀ (E' : XK) (Q' : VK), (∀ dd H', Up X.K H2 H' → H' dd = some (.xd [(fXk b, v)]) → E' (.ref (cXk X.K b)) (some dd) H') → tb E' (startF N [v] (js.map (slotAt σ))) H2 Q') ∧
    (∀ q H', Up X.K H2 H' → H' q = some (.lst [.str (wXk b), v]) → Q (.ref q) H')
theorem cells_out {pins : List (Addr × Obj)} {σ : L2.St} {H : Hp} {s : Shared} (I : Inv X pins σ H s) (hfn : ∀ y, X.fn y = true) {y : Str} {a : Addr} (h : X.env.cells.lookup y = some a) : a ∉ frs X.stack := fun hm => by
  rcases List.mem_cons.mp (I.stkSub a hm) with z | z
  · exact I.cne y a h z
  · obtain ⟨_, o, e, _⟩ := I.ok.funs.mem z
    have h1 := Heap.lt_size e
    have h2 := I.ok.cab y a (hfn y) h
    exact Nat.lt_irrefl _ (Nat.lt_of_lt_of_le h1 h2)
theorem pe_caught (t : T X.K X.mg) (t4 : T4 X.prog X.w X.K X.mg X.base) (L : LamT X (TT X.K) params scope fr js) (LP : LamP X.prog X.w X.K X.mg X.base 5 (X.env.qual ++ "<lambda>") params body scope N x fr tb) (hr : Room j X.A) (hk : 7 ≤ j) (he : PE X e te) (hfn : ∀ y, X.fn y = true)
    (hg : Gl X "_law_caught" := by rfl) (hst : starEach [.Lambda params body scope lpos, e] X.env = (false, eval (.Lambda params body scope lpos) X.env) :: starEach [e] X.env := by rfl) (hst2 : starEach [e] X.env = (false, eval e X.env) :: starEach [] X.env := by rfl) (hpl : (backTo pos (starEach [e] X.env)).any (·.1) = false := by rfl) :
    PE X (.Call (.Name "_law_caught" p) [.Lambda params body scope lpos, e] [] pos) (tCaught X params body scope N js tb te) := by
  refine ⟨fun pins s σ H Q I h => ?_⟩
  obtain ⟨f0, fd, ps, F, hm, kp, bnd⟩ := (cs_caught t t4 LP).ex
  have ha : PA X [.Lambda params body scope lpos, e] (tCons (tLamE (TT X.K) (mkL X params body scope)) (tCons te tNil)) := pa_cons (pe_lam L) (pa_cons he pa_nil hst2) hst
  refine wpAny_Call_Name_kw (ld_glob I hg hm ?_ (by decide))
  refine PySem.W.callWith_K (h₀ := X.base) I.ok.mod.kin kp (thn (ha.run pos pins s σ H _ I h) fun us s1 ⟨vs, H1, I1, r, q⟩ => ⟨I1.kIn, ?_⟩) hst hpl
  obtain ⟨f, c', v, rfl, hf, hc, b, h1, h2⟩ := q
  have cp := Caps.made (X := X) I1.ok L.free L.frs L.js
  show wpAny _ _ (call (.ref f0) us) _ _ _
  have hsp : spCaught X.K (X.env.qual ++ "<lambda>") params body scope N fr tb X.stack s1 [.ref f, v] H1 Q E0 := ⟨f, v, _, c', _, b, rfl, hf, hc, cells_of I1 cp, fun y a e => cells_out I1 hfn (cp.sub y a e), h1, h2⟩
  have hl : us.length = ps.length := by rw [← r.length]; exact F.len _ _ _ _ _ _ hsp
  have hb' := bnd s1 us I1.kIn (by rw [List.append_nil]; exact hl)
  rw [List.append_nil] at hb'
  refine wpAny_call (codeAny_mono (F.run X.A X.stack s1 H1 ⟨us, []⟩ us _ Q E0 (hr.mono hk) I1.env0 hb' r hsp) fun r s' hq => ?_)
  cases r with
  | error e => exact (show False from hq).elim
  | ok fl =>
    cases fl with
    | ret u => exact I1.after hq
    | next => exact False.elim hq
    | brk => exact False.elim hq
    | cont => exact False.elim hq
end
end SH
/-! W42 -/
set_option Elab.async false
set_option linter.all false
set_option maxRecDepth 100000
set_option maxHeartbeats 2000000
/-! _law_refusals_right. -/
namespace SH
open PySem PySem.Spec PyProof.Rows L2 LamX NdefX
section
variable {P : Program} {w : World} {K : Frg} {mg : Str → Option Value} {base : Heap}
abbrev nRf : List Str := ["_law_chart_here", "_law_odd"]
def spRf (K : Frg) : Sp := fun vs H Q _ => ∃ (c : Addr) (ch : Ch), vs = [.ref c] ∧ ChartAt K H c ch ∧ ch.Ok ∧ zN ∉ ch.names ∧ Tabs (TT K) H ∧ ∀ H', Up K H H' → Q (.bl true) H'
theorem sc_Rf : FnScope nRf ["_law_chart_here"] (defScope s_law_refusals_right) := sc_of
/-- an odd value: what is asked of it at a heap -/
structure OddOk (K : Frg) (H : Hp) (v : V) : Prop where
  eq : EqS K H v
  bl : ∃ tv b, TyX K H v tv ∧ PySem.W.kitOne K tv (.type "bool") = some b
theorem c_refusals (t3 : T3 K mg) (b3 : TBs K mg base) (t4 : T4 P w K mg base) : Cal P w K mg base 9 "_law_refusals_right" (spRf K) [] := by
  have t := t3.z.t
  obtain ⟨fd, F⟩ := t3.rr
  refine ⟨_, fd, _, [], fn_ofT F sc_Rf (fun vs H Q E h => ?_) (fun A outer s H vs Q E hr h => ?_), t3.rrM, F.kp, F.bindsN (fun _ _ _ _ _ _ us hl => match us, hl with | [_], _ => rfl), .nil⟩
  · obtain ⟨a, _, rfl, _⟩ := h
    rfl
  · obtain ⟨c, ch, rfl, hc, ok, hz, tab, q⟩ := h
    have nd := sc_Rf.nd
    have hu := hu_of hr
    have few := ok.few
    have mtR : ((tR K), qR) ∈ TT K := List.mem_cons_of_mem _ List.mem_cons_self
    refine ⟨_, pss_cons (ps_for PassesOwn.never rfl (pi_list (pe_lst (pa_cons pe_non (pa_cons pe_int (pa_cons (pe_lst pa_nil) (pa_cons pe_dnewK (pa_cons pe_str (pa_cons (pe_c (c_dry t3 b3) hr (by decide) (pa_cons (pv 0) pa_nil)) pa_nil)))))))) (gv 1 nd)
        (pss_one (ps_if (pt_not (pt_val (pe_c (c_is t) hr (by decide) (pa_cons (by
            refine pe_caught (N := ["_law_it"]) (fr := []) (js := []) (x := "_law_it") (tb := fun E => tCallS (spEscX K) (WE fun cls d _ H => E cls d H) (tCons (tVar 0) (tCons (tC .non) tNil))) t t4 ?L1 ?P1 hr (by decide) (pv 1) (fun _ => rfl)
            case L1 => exact ⟨⟨_, tR K, b3.tR, rfl, mtR, fun p hp e => by
              rcases List.mem_cons.mp hp with z | z
              · rw [z] at e; exact absurd e t3.ne
              · rw [List.mem_singleton.mp z]; rfl⟩, rfl, (by show ∀ y ∈ ([("_law_it", NameKind.local), ("escape", NameKind.globalImplicit)] : List (Str × NameKind)), y.2 = NameKind.free → (defScope s_law_refusals_right).names.lookup y.1 = some NameKind.cell ∨ (defScope s_law_refusals_right).names.lookup y.1 = some NameKind.free; decide +kernel), by decide +kernel, rfl⟩
            case P1 => exact ⟨NdefX.nscope_by (by decide +kernel), fun cl pm cv ctv us hl => match us, hl with | [_], _ => rfl, fun cl c f A outer s H E hr0 => pe_cX (cx_escape t t4) hr0 (by decide) (takes_of rfl rfl rfl rfl) (pa_cons (pv 0) (pa_cons pe_non pa_nil))⟩) (pa_cons pe_str (pa_cons (pv 1) pa_nil)))))) (pss_one (ps_ret pe_bl)) pss_nil)))
      (pss_cons (ps_for PassesOwn.never rfl (pi_list (pe_lst (pa_cons pe_non (pa_cons pe_int (pa_cons pe_str (pa_cons pe_str (pa_cons pe_str (pa_cons pe_str (pa_cons (pe_lst pa_nil) (pa_cons (pe_tup pa_nil) (pa_cons pe_bl pa_nil))))))))))) (gv 1 nd)
        (pss_one (ps_if (pt_not (pt_val (pe_c (c_is t) hr (by decide) (pa_cons (by
            refine pe_caught (N := ["_law_it", "_law_chart_here"]) (fr := ["_law_chart_here"]) (js := [0]) (x := "_law_it") (tb := fun E => tCallS (spEscX K) (WE fun cls d _ H => E cls d H) (tCons (tVar 1) (tCons (tVar 0) tNil))) t t4 ?L2 ?P2 hr (by decide) (pv 1) (fun _ => rfl)
            case L2 => exact ⟨⟨_, tR K, b3.tR, rfl, mtR, fun p hp e => by
              rcases List.mem_cons.mp hp with z | z
              · rw [z] at e; exact absurd e t3.ne
              · rw [List.mem_singleton.mp z]; rfl⟩, rfl, (by show ∀ y ∈ ([("_law_it", NameKind.local), ("_law_chart_here", NameKind.free), ("escape", NameKind.globalImplicit)] : List (Str × NameKind)), y.2 = NameKind.free → (defScope s_law_refusals_right).names.lookup y.1 = some NameKind.cell ∨ (defScope s_law_refusals_right).names.lookup y.1 = some NameKind.free; decide +kernel), by decide +kernel, rfl⟩
            case P2 => exact ⟨NdefX.nscope_by (by decide +kernel), fun cl pm cv ctv us hl => match us, hl with | [_], _ => rfl, fun cl c f A outer s H E hr0 => pe_cX (cx_escape t t4) hr0 (by decide) (takes_of rfl rfl rfl rfl) (pa_cons (pv 1) (pa_cons (pv 0) pa_nil))⟩) (pa_cons pe_str (pa_cons (pv 1) pa_nil)))))) (pss_one (ps_ret pe_bl)) pss_nil)))
      (pss_one (ps_ret pe_bl))), ?_⟩
    have l0 : (0 : Nat) ≤ sizeLine := Nat.zero_le _
    refine ⟨l0, fun la hla da hda => ?_⟩
    have U1 := (Up.new (K := K) (o := .lst []) hla).add (o := .dK []) hda
    have ela : upd (upd H la (.lst [])) da (.dK []) la = some (.lst []) := ext_new hda _ _ upd_same
    have eda : upd (upd H la (.lst [])) da (.dK []) da = some (.dK []) := upd_same
    refine ⟨_, rfl, c, ch, rfl, hc.up U1, ok, U1.tabs tab, fun H3 dr u3 hl => ⟨line8 (show (6 : Nat) ≤ 100000 by decide), fun L hL => ?_⟩⟩
    have U2 := U1.trans u3
    have U3 := U2.add (o := .lst [.non, .int 7, .ref la, .ref da, .str "chart", .ref dr]) hL
    have fv : ∀ v ∈ ([.non, .int 7, .ref la, .ref da, .str "chart", .ref dr] : List V), ∀ H', Up K H3 H' → OddOk K H' v ∧ NoCh K H' v := fun v hv H' u => by
      obtain ⟨lx, lf, elr⟩ := hl.ex
      simp only [List.mem_cons, List.not_mem_nil, or_false] at hv
      rcases hv with rfl | rfl | rfl | rfl | rfl | rfl
      · exact ⟨⟨.sc rfl, _, false, .base .non, kit_ty (by decide +kernel)⟩, _, .base .non, t4.k1⟩
      · exact ⟨⟨.sc rfl, _, false, .base (.int _), kit_ty (by decide +kernel)⟩, _, .base (.int _), t4.k2⟩
      · have e := u.at (u3.at ela)
        exact ⟨⟨.ls (SqL.of e), _, false, .base (.lst e), kit_ty (by decide +kernel)⟩, _, .base (.lst e), t4.k3⟩
      · have e := u.at (u3.at eda)
        exact ⟨⟨.dc e, _, false, .base (.dK e), kit_ty (by decide +kernel)⟩, _, .base (.dK e), t4.k4⟩
      · exact ⟨⟨.sc rfl, _, false, .base (.str _), kit_ty (by decide +kernel)⟩, _, .base (.str _), t4.k5⟩
      · have e := u.at elr
        exact ⟨⟨.ld (hl.up u) ok, _, false, ty_ins e t.clL t.oiL, t4.k7⟩, _, ty_ins e t.clL t.oiL, t4.k6⟩
    refine ⟨L, rfl, ⟨_, SqL.of upd_same⟩, for_it walk_list (fun i σ H' => ∃ o1, σ = [some (.ref c), o1] ∧ Up K H H' ∧ Up K H3 H' ∧ H' L = some (.lst [.non, .int 7, .ref la, .ref da, .str "chart", .ref dr]))
      ⟨_, rfl, U3, Up.new hL, upd_same⟩ (fun i σ H' _ h => let ⟨_, _, _, _, e⟩ := h; SqL.of e) (fun i x σ H4 H5 hi h hy => ?_) (fun σ H4 h => ?_)⟩
    · obtain ⟨o1, rfl, U4, u4, eL⟩ := h
      obtain ⟨rfl, hx⟩ := hy
      have hm := List.mem_of_getElem? hx
      refine ⟨U4.tabs tab, fun f c' H6 e6 t6 f0 ef ec => ?_⟩
      have u6 : Up K H5 H6 := ⟨e6, fun _ => t6⟩
      have o6 := fv x hm H6 (u4.trans u6)
      refine ⟨_, rfl, f, c', x, rfl, ef, ec, true, fun E' Q' hE => ⟨_, rfl, .inl ⟨x, rfl, o6.2, fun d hd => hE d _ (Up.new hd) upd_same⟩⟩, fun p H7 u7 e7 => ?_⟩
      have o7 := fv x hm H7 ((u4.trans u6).trans u7)
      refine ⟨_, rfl, p, _, x, rfl, e7, o7.1.eq, o7.1.bl, fun H8 u8 => ?_⟩
      have u9 := (u6.trans u7).trans u8
      exact ⟨_, rfl, _, rfl, U4.trans u9, u4.trans u9, u9.at eL⟩
    · obtain ⟨o1, rfl, U4, _, _⟩ := h
      have hc4 := hc.up U4
      refine ⟨l0, fun lb hlb => ⟨l0, fun ta hta => ⟨line8 (show (9 : Nat) ≤ 100000 by decide), fun M hM => ?_⟩⟩⟩
      have V1 := (Up.new (K := K) (o := .lst []) hlb).add (o := .tup []) hta
      have elb : upd (upd H4 lb (.lst [])) ta (.tup []) lb = some (.lst []) := ext_new hta _ _ upd_same
      have eta : upd (upd H4 lb (.lst [])) ta (.tup []) ta = some (.tup []) := upd_same
      generalize upd (upd H4 lb (.lst [])) ta (.tup []) = H5 at hM V1 elb eta ⊢
      have gN : ∀ n, n ∈ ch.names → GoodN n := ok.good
      have fw : ∀ v ∈ ([.non, .int 7, .str "", .str "Name", .str "zzzzzzzzz", .str zN, .ref lb, .ref ta, .bl true] : List V), ∀ H', Up K H5 H' → OddOk K H' v ∧ NoPl K H' ch v := fun v hv H' u => by
        simp only [List.mem_cons, List.not_mem_nil, or_false] at hv
        rcases hv with rfl | rfl | rfl | rfl | rfl | rfl | rfl | rfl | rfl
        · exact ⟨⟨.sc rfl, _, false, .base .non, kit_ty (by decide +kernel)⟩, .inr ⟨_, .base .non, by decide +kernel⟩⟩
        · exact ⟨⟨.sc rfl, _, false, .base (.int _), kit_ty (by decide +kernel)⟩, .inr ⟨_, .base (.int _), by decide +kernel⟩⟩
        · exact ⟨⟨.sc rfl, _, false, .base (.str _), kit_ty (by decide +kernel)⟩, .inl ⟨_, rfl, fun h => absurd (gN _ h).1 (by decide +kernel)⟩⟩
        · exact ⟨⟨.sc rfl, _, false, .base (.str _), kit_ty (by decide +kernel)⟩, .inl ⟨_, rfl, fun h => absurd ((gN _ h).2.2 78 (by decide +kernel)) (by decide)⟩⟩
        · exact ⟨⟨.sc rfl, _, false, .base (.str _), kit_ty (by decide +kernel)⟩, .inl ⟨_, rfl, fun h => absurd (gN _ h).2.1 (by decide +kernel)⟩⟩
        · exact ⟨⟨.sc rfl, _, false, .base (.str _), kit_ty (by decide +kernel)⟩, .inl ⟨_, rfl, hz⟩⟩
        · have e := u.at elb
          exact ⟨⟨.ls (SqL.of e), _, false, .base (.lst e), kit_ty (by decide +kernel)⟩, .inr ⟨_, .base (.lst e), by decide +kernel⟩⟩
        · have e := u.at eta
          exact ⟨⟨.tp (SqT.of e), _, false, .base (.tup e), kit_ty (by decide +kernel)⟩, .inr ⟨_, .base (.tup e), by decide +kernel⟩⟩
        · exact ⟨⟨.sc rfl, _, true, .base (.bl _), kit_ty (by decide +kernel)⟩, .inr ⟨_, .base (.bl _), by decide +kernel⟩⟩
      refine ⟨M, rfl, ⟨_, SqL.of upd_same⟩, for_it walk_list (fun i σ H' => ∃ o1, σ = [some (.ref c), o1] ∧ Up K H H' ∧ Up K H5 H' ∧ H' M = some (.lst [.non, .int 7, .str "", .str "Name", .str "zzzzzzzzz", .str zN, .ref lb, .ref ta, .bl true]))
        ⟨_, rfl, U4.trans (V1.add hM), Up.new hM, upd_same⟩ (fun i σ H' _ h => let ⟨_, _, _, _, e⟩ := h; SqL.of e) (fun i x σ H6 H7 hi h hy => ?_) (fun σ H6 h => ?_)⟩
      · obtain ⟨o1, rfl, U6, u6, eM⟩ := h
        obtain ⟨rfl, hx⟩ := hy
        have hm := List.mem_of_getElem? hx
        refine ⟨U6.tabs tab, fun f c' H8 e8 t8 f0 ef ec => ?_⟩
        have u8 : Up K H7 H8 := ⟨e8, fun _ => t8⟩
        have o8 := fw x hm H8 (u6.trans u8)
        refine ⟨_, rfl, f, c', x, rfl, ef, ec, false, fun E' Q' hE => ⟨_, rfl, _, rfl, .inr ⟨c, x, ch, rfl, hc.up (U6.trans u8), o8.2, fun d hd => hE d _ (Up.new hd) upd_same⟩⟩, fun p H9 u9 e9 => ?_⟩
        have o9 := fw x hm H9 ((u6.trans u8).trans u9)
        refine ⟨_, rfl, p, _, x, rfl, e9, o9.1.eq, o9.1.bl, fun HA uA => ?_⟩
        have uB := (u8.trans u9).trans uA
        exact ⟨_, rfl, _, rfl, U6.trans uB, u6.trans uB, uB.at eM⟩
      · obtain ⟨o1, rfl, U6, _, _⟩ := h
        exact q _ U6
end
end SH
/-! W43 -/
set_option Elab.async false
set_option linter.all false
set_option maxRecDepth 100000
set_option maxHeartbeats 2000000
/-! law. -/
namespace SH
open PySem PySem.Spec PyProof.Rows L2 LamX NdefX
theorem BoxAt.upU {K : Frg} {H H' : Hp} {b : Addr} {k : Nat} (x : BoxAt H b k) (u : Up K H H') : BoxAt H' b k := let ⟨x, y, z, e, r⟩ := x; ⟨x, y, z, u.at e, r⟩
theorem SqL.mv {K : Frg} {H H' : Hp} {a : Addr} {xs : List V} (h : SqL K H a xs) (k : ∀ o, H a = some o → (∀ ps, o ≠ .tbl ps) → H' a = some o) : SqL K H' a xs := by
  rcases h with (h | ⟨o, h⟩) | h
  · exact .inl (.inl (k _ h (fun _ z => nomatch z)))
  · exact .inl (.inr ⟨o, k _ h (fun _ z => nomatch z)⟩)
  · exact .inr h
section
variable {P : Program} {w : World} {K : Frg} {mg : Str → Option Value} {base : Heap}
abbrev nLw : List Str := ["_law_script", "_law_k", "_law_box_here", "_law_model_here", "_law_chart_here"]
def spLaw (K : Frg) : Sp := fun vs H Q _ => ∃ (a : Addr) (ns : List Int), vs = [.ref a] ∧ SqL K H a (ns.map V.int) ∧ ns.length ≤ 63 ∧ Tabs (TT K) H ∧ ∀ H', Q (.bl true) H'
theorem sc_Lw : FnScope nLw ["_law_script"] (defScope s_law) := sc_of
theorem law_body (t3 : T3 K mg) (b3 : TBs K mg base) (t4 : T4 P w K mg base) : BodyG P w K mg base "law" s_law nLw 11 (spLaw K) := by
  have t := t3.z.t
  intro f cdv A outer s H vs Q E hg hr h
  · obtain ⟨a, ns, rfl, hs, few, tab, q⟩ := h
    have nd := sc_Lw.nd
    refine ⟨_, pss_cons (ps_for PassesOwn.never rfl (pi_range1 rfl t.n_range (pa_cons (cb (call_max2 rfl) t.n_max (pa_cons pe_int (pa_cons (cb (call_min2 rfl) t.n_min (pa_cons pe_int (pa_cons (cb call_len_seq t.n_len (pa_cons (pv 0) pa_nil)) pa_nil))) pa_nil))) pa_nil)) (gv 1 nd)
        (pss_cons (sv 2 nd (pe_c (c_box t) hr (by decide) (pa_cons (pe_c (c_cell t) hr (by decide) (pa_cons (pv 0) (pa_cons (pv 1) pa_nil))) pa_nil)))
        (pss_cons (sv 3 nd (pe_c (c_drained t) hr (by decide) (pa_cons (pv 2) (pa_cons (pe_c (c_model t) hr (by decide) (pa_cons (pv 2) (pa_cons pe_int pa_nil))) pa_nil))))
        (pss_cons (sv 4 nd (pe_c (c_chart t) hr (by decide) (pa_cons (pv 3) pa_nil)))
        (pss_cons (ps_if (PW.pt (pw_or (pt_not (pt_val (pe_cG (c_escapes_right t3 b3) hr hg (by decide) (pa_cons (pv 3) (pa_cons (pv 4) pa_nil))))) (pw_or1 (pt_not (pt_val (pe_cG (c_later_right t3 b3) hr hg (by decide) (pa_cons (pv 2) (pa_cons (pv 3) (pa_cons (pv 4) pa_nil))))))))) (pss_one (ps_ret pe_bl)) pss_nil)
        (pss_one (ps_if (pt_not (pt_val (pe_c (c_refusals t3 b3 t4) hr (by decide) (pa_cons (pv 4) pa_nil)))) (pss_one (ps_ret pe_bl)) pss_nil)))))))
      (pss_one (ps_ret pe_bl)), ?_⟩
    refine ⟨_, rfl, a, _, rfl, .inl hs, _, _, rfl, _, _, rfl, _, rfl, ?_⟩
    have hR : ∀ l : Int, 0 ≤ l → 0 ≤ (if (if l < 5 then l else 5) > 2 then (if l < 5 then l else 5) else 2) ∧ (if (if l < 5 then l else 5) > 2 then (if l < 5 then l else 5) else 2) ≤ 5 := fun l h => by
      constructor <;> (split <;> (try split) <;> omega)
    obtain ⟨r0, r5⟩ := hR ((ns.map V.int).length : Int) (by omega)
    generalize (if (if ((ns.map V.int).length : Int) < 5 then ((ns.map V.int).length : Int) else 5) > 2 then (if ((ns.map V.int).length : Int) < 5 then ((ns.map V.int).length : Int) else 5) else 2) = r at r0 r5 ⊢
    refine ⟨by omega, by omega, for_it walk_range (fun i σ H' => ∃ o1 o2 o3 o4, σ = [some (.ref a), o1, o2, o3, o4] ∧ SqL K H' a (ns.map V.int) ∧ Tabs (TT K) H') ⟨_, _, _, _, rfl, hs, tab⟩ (fun _ _ _ _ _ => trivial) (fun i x σ H1 H2 hi h hy => ?_) (fun σ H1 h => ?_)⟩
    · obtain ⟨o1, o2, o3, o4, rfl, hs1, tab1⟩ := h
      obtain ⟨rfl, rfl⟩ := hy
      refine ⟨_, rfl, _, rfl, a, i, ns, congrArg (fun z => [V.ref a, V.int z]) (Int.zero_add _), hs1, by omega, fun v => ⟨v, rfl, fun b H3 hb s3 b3' => ?_⟩⟩
      refine ⟨_, rfl, _, rfl, b, 0, rfl, b3', by omega, fun H4 m M kvs dl dh lt lo s4 b4 hW n1 n2 ok fm => ⟨b, m, _, M, kvs, dl, dh, lt, lo, rfl, b4, by omega, hW, n1, n2, ok, fun H5 M' k5 b5 hM ok' => ?_⟩⟩
      have fb : H2 b = none := hb
      have tab3 : Tabs (TT K) H3 := tab1.ext s3
      have tab4 := s4.tabs b3' tab3
      have mb : m ≠ b := fun z => by
        obtain ⟨xs, e⟩ := b4.ex
        rw [← z, hW.1] at e; cases e
      have fm3 : H3 m = none := fm
      have keep5 : ∀ x o, H2 x = some o → H5 x = some o := fun x o e => by
        have e3 := s3 _ _ e
        have e4 := s4 x o (ne_of_none e fb) e3
        exact k5 x o (ne_of_none e fb) (ne_of_none e3 fm3) e4
      have tab5 : Tabs (TT K) H5 := tab1.ext keep5
      refine ⟨_, rfl, m, M', rfl, hM, ok', fun H6 c ch u6 hc hn cm => ?_⟩
      have hM6 := hM.up u6
      refine ⟨_, rfl, _, rfl, m, c, M', ch, rfl, hM6, ok', hc, cm, u6.tabs tab5, fun H7 u7 => ⟨true, rfl, _, rfl, ?_⟩⟩
      have U7 := u6.trans u7
      refine ⟨_, rfl, _, rfl, b, m, c, _, M', ch, rfl, b5.upU U7, by omega, hM.up U7, ok', hc.up u7, cm, U7.tabs tab5, fun H8 H9 s8 u9 => ⟨true, rfl, _, rfl, ?_⟩⟩
      have hc9 := (s8.ch (b5.upU U7) (hc.up u7)).up u9
      have tab9 := u9.tabs (s8.tabs (b5.upU U7) (U7.tabs tab5))
      have hz : zN ∉ ch.names := fun z => (ok'.nm _ (cm.nm.mem_iff.mp z)).2 rfl
      refine ⟨c, ch, rfl, hc9, cm.ok, hz, tab9, fun HA uA => ?_⟩
      refine ⟨true, rfl, _, _, _, _, rfl, ?_, uA.tabs tab9⟩
      exact SqL.mv hs1 fun o e n => uA.atN (u9.atN (s8 a o (ne_of_none e fb) (u7.atN (u6.atN (keep5 a o e) n) n)) n) n
    · exact q _
theorem spLaw_len (vs : List V) (H : Hp) (Q : VK) (E : XK) (h : spLaw K vs H Q E) : vs.length = (["_law_script"] : List Str).length := by
  obtain ⟨_, _, rfl, _⟩ := h
  rfl
end
end SH
/-! HX -/
set_option Elab.async false
set_option linter.all false
set_option maxRecDepth 100000
set_option maxHeartbeats 2000000
/-! What the head tells by Bools of one's own; exceptions' __init__. -/
namespace SH
open PySem PySem.Spec PyProof.Rows L2 LamX NdefX
open He (ba eqO eqO_ok)
theorem ownB_ok {K : Frg} {C : Addr} (h : ownB K C = true) : OwnIs K C := by
  obtain ⟨h1, h⟩ := ba h
  obtain ⟨h2, h⟩ := ba h
  obtain ⟨h3, h4⟩ := ba h
  exact ⟨eqO_ok h1, eqO_ok h2, of_decide_eq_true h3, of_decide_eq_true h4⟩
theorem neKB_ok {K : Frg} {C : Addr} (h : neKB K C = true) : NeK K C := by
  obtain ⟨h1, h2⟩ := ba h
  exact ⟨eqO_ok h1, of_decide_eq_true h2⟩
theorem emTB_ok {K : Frg} {a : Addr} (h : emTB K a = true) (H : Hp) : SqT K H a [] := by
  unfold emTB at h
  cases q : K.lookup a with
  | none => rw [q] at h; cases h
  | some o =>
    obtain ⟨oc, od, dt, osl⟩ := o
    rw [q] at h
    cases oc with
    | type c =>
      cases dt with
      | seq its n =>
        obtain ⟨h1, h2⟩ := ba (show (decide (c = "tuple") && its.isEmpty) = true from h)
        have e : its = #[] := Array.isEmpty_iff.mp h2
        subst e
        exact .inr ⟨_, #[], n, q, congrArg Value.type (of_decide_eq_true h1), rfl, Nat.zero_le _, .nil⟩
      | _ => cases h
    | _ => cases dt <;> cases h
theorem oexB_ok {K : Frg} {C : Addr} (h : oexB K C = true) : OexC K C := by
  obtain ⟨q, h⟩ := ba h
  obtain ⟨h1, h⟩ := ba h
  obtain ⟨h2, h⟩ := ba h
  obtain ⟨h3, h4⟩ := ba h
  refine ⟨?_, eqO_ok h1, of_decide_eq_true h2, of_decide_eq_true h3, h4⟩
  split at q
  · rename_i dd cd sl ho
    split at q
    · rename_i C' bm k0 k1 k2 k3 n k5 hm hs
      simp only [Bool.and_eq_true, beq_iff_eq, Bool.not_eq_true'] at q
      obtain ⟨⟨⟨⟨rfl, rfl⟩, hdel⟩, hdict⟩, ht⟩ := q
      obtain ⟨nm, bs, mro, ns, qn, hd, sn, sub, ab, col, del⟩ := cd
      dsimp only at hm hdel hdict
      subst hm hdel hdict
      have hsl : sl = #[k0, k1, k2, k3, some (.builtin "ValueError.__new__"), k5] := by
        obtain ⟨l⟩ := sl
        simp only at hs
        rw [hs]
      subst hsl
      exact ⟨nm, qn, ns, bs, bm, sn, sub, ab, col, dd, k0, k1, k2, k3, k5, ho, ht⟩
    · cases q
  · cases q
theorem iniB_ok {P : Program} {K : Frg} {x qual : Str} {st : Stmt} (e : fnZ K x = valZ qual st) (h : iniB K P.main.file x qual = true) : ∃ fd, XInit P K (He.ga K x) qual st (iAd K x) fd := by
  obtain ⟨q, h⟩ := ba h
  obtain ⟨h1, h⟩ := ba h
  obtain ⟨h2, h⟩ := ba h
  obtain ⟨h3, h4⟩ := ba h
  unfold fnZ at e
  cases k : K.lookup (iAd K x) with
  | none => rw [k] at q; cases q
  | some o =>
    obtain ⟨oc, od, dt, osl⟩ := o
    rw [k] at q e
    cases dt with
    | func fd =>
      obtain ⟨n1, n2, n3, n4, n5, n6, n7, n8, n9, n10, n11, n12, n13, n14, n15⟩ := fd
      have e2 : (some (n1, n2, n3, n4, n5, n6, n7.map (·.1), n8, n9, n15) : FnZ) = (some (("__init__" : Str), qual, defArgs st, FuncBody.stmts (defBody st), defScope st, mainGlobals, [("__class__" : Str)], Value.none, Value.none, builtinsNs) : FnZ) := e
      simp only [Option.some.injEq, Prod.mk.injEq] at e2
      obtain ⟨r1, r2, r3, r4, r5, r6, r7, r8, r9, r15⟩ := e2
      obtain ⟨q1, q⟩ := ba q
      obtain ⟨q2, q3⟩ := ba q
      dsimp only at q1 q2 q3
      cases n13 with
      | ref c =>
        dsimp only at q2
        cases kc : K.lookup c with
        | none => rw [kc] at q2; cases q2
        | some oc2 =>
          obtain ⟨cc1, cc2, cdt, cc4⟩ := oc2
          rw [kc] at q2
          cases cdt with
          | fields vs =>
            dsimp only at q2
            cases kv : (vs[2]? : Option Value) with
            | none => rw [kv] at q2; cases q2
            | some v =>
              rw [kv] at q2
              cases v with
              | str f t =>
                match n7, r7, q3 with
                | [(y, cell)], r7, q3 =>
                  dsimp only at q3
                  cases kl : K.lookup cell with
                  | none => rw [kl] at q3; cases q3
                  | some ol =>
                    obtain ⟨l1, l2, ldt, l4⟩ := ol
                    rw [kl] at q3
                    cases ldt with
                    | cell ov =>
                      cases ov with
                      | some v =>
                        cases v with
                        | ref C =>
                          have eC : C = He.ga K x := of_decide_eq_true q3
                          subst eC
                          have ey : y = "__class__" := by
                            have r7' : [y] = [("__class__" : Str)] := r7
                            exact (List.cons.inj r7').1
                          subst r1 r2 r3 r4 r5 r6 r8 r9 r15 ey
                          exact ⟨_, ⟨⟨oc, od, n10, n11, n14, n12, osl, c, cell, vs, f, t, cc1, l1, cc2, l2, cc4, l4, rfl, k, q1, kc, kv, q2, kl⟩, of_decide_eq_true h1, eqO_ok h2, of_decide_eq_true h3, eqO_ok h4⟩⟩
                        | _ => cases q3
                      | none => cases q3
                    | _ => cases q3
              | _ => cases q2
          | _ => cases q2
      | _ => cases q2
    | _ => cases q
end SH
/-! HX2 -/
set_option Elab.async false
set_option linter.all false
set_option maxRecDepth 100000
set_option maxHeartbeats 2000000
namespace SH
open PySem PySem.Spec PyProof.Rows L2 LamX NdefX
open He (ba eqO eqO_ok)
section
variable {w : World} {K : Frg} {mg : Str → Option Value} {base : Heap} {fd : FuncData} {f C : Addr} {CX : CXT}
theorem top_super : (PW.main.scope.names.lookup ("super" : Str)).isSome = false := by decide +kernel
theorem nc_fn (X : XInit PW K C "NotChart.__init__" s_NotChart_init f fd) (T : OexC K C) (hsu : mg "super" = none) (hno : PySem.W.findIn K (.ref C) "value" = some none) :
    FnOk PW w K mg base CX 1 f fd ["self", "value"] (spXI C "value") :=
  xi_fn (k := 0) X T hsu top_super hno rfl (NdefX.nscope_by (by decide +kernel)) (by decide +kernel) rfl (by decide) (by decide) (fun _ => rfl) (fun _ _ _ _ => rfl) (fun _ _ _ _ => ⟨_, rfl⟩)
theorem up_fn (X : XInit PW K C "UnknownPlace.__init__" s_UnknownPlace_init f fd) (T : OexC K C) (hsu : mg "super" = none) (hno : PySem.W.findIn K (.ref C) "name" = some none) :
    FnOk PW w K mg base CX 1 f fd ["self", "name"] (spXI C "name") :=
  xi_fn (k := 0) X T hsu top_super hno rfl (NdefX.nscope_by (by decide +kernel)) (by decide +kernel) rfl (by decide) (by decide) (fun _ => rfl) (fun _ _ _ _ => rfl) (fun _ _ _ _ => ⟨_, rfl⟩)
theorem nc_binds (X : XInit PW K C "NotChart.__init__" s_NotChart_init f fd) : Binds K fd ["self", "value"] [] := by
  obtain ⟨oc, od, doc, pm, ct, an, osl, cda, cc, vs, file, tf, ccl, cl, cdd, cld, ccs, csl, rfl, _⟩ := X.lk
  exact Binds.all fun us hl => match us, hl with | [_, _], _ => rfl
theorem up_binds (X : XInit PW K C "UnknownPlace.__init__" s_UnknownPlace_init f fd) : Binds K fd ["self", "name"] [] := by
  obtain ⟨oc, od, doc, pm, ct, an, osl, cda, cc, vs, file, tf, ccl, cl, cdd, cld, ccs, csl, rfl, _⟩ := X.lk
  exact Binds.all fun us hl => match us, hl with | [_, _], _ => rfl
end
end SH
/-! HD -/
set_option Elab.async false
set_option linter.all false
set_option maxRecDepth 100000
set_option maxHeartbeats 4000000
/-! The head's facts by names. -/
namespace SH
open PySem PySem.Spec PyProof.Rows L2 LamX NdefX
open He (ba eqO eqO_ok)
structure SaysY (h : Heap) (K : Frg) : Prop where
  d : He.SaysD hfa hfn K
  more : hex K = true
  z : zs K = zv
  hd : ∀ p ∈ htf, PySem.W.codeHdIn K (He.cT K p).1 (He.cT K p).2 = true
  out : ∀ p ∈ htf, K.lookup (He.cT K p).2 = none
  empty : ∀ p ∈ htf, h.get? (He.cT K p).2 = some { cls := .none, data := .fields #[] }
theorem saysY_of {h : Heap} (e : obsY h.get? = valY) : SaysY h (He.frT h.get? (asY h.get?)) := by
  obtain ⟨e1, e'⟩ := Prod.mk.inj (show obsK h.get? (He.frT h.get? (asY h.get?)) = valY from e)
  obtain ⟨e2, e3⟩ := Prod.mk.inj e'
  obtain ⟨b1, b2⟩ := ba e2
  have one : ∀ p ∈ htf, PySem.W.codeHdIn (He.frT h.get? (asY h.get?)) (He.cT (He.frT h.get? (asY h.get?)) p).1 (He.cT (He.frT h.get? (asY h.get?)) p).2 = true ∧ emB (h.get? (He.cT (He.frT h.get? (asY h.get?)) p).2) = true := fun p hp => ba (List.all_eq_true.mp b2 p hp)
  have two : ∀ p ∈ htf, ∃ u, h.get? (He.cT (He.frT h.get? (asY h.get?)) p).2 = some u ∧ He.emptyTab u = true := fun p hp => by
    have q := (one p hp).2
    cases k : h.get? (He.cT (He.frT h.get? (asY h.get?)) p).2 with
    | none => rw [k] at q; cases q
    | some u => rw [k] at q; exact ⟨u, rfl, q⟩
  exact ⟨e1, b1, e3, fun p hp => (one p hp).1, fun p hp => let ⟨u, k, m⟩ := two p hp; He.frT_none k m, fun p hp => let ⟨u, k, m⟩ := two p hp; by rw [k, He.emptyTab_eq m]⟩
def hookY : PySem.W.Hook where
  α := AlY
  obs := fun s => obsY s.heap.get?
  val := fun _ => valY
  says := fun _ h => ∃ K : Frg, K.In h ∧ SaysY h K
  of := fun _ _ e => ⟨_, He.frT_in, saysY_of e⟩
  keeps := fun _ _ _ ⟨K, hK, c⟩ k => ⟨K, hK.keeps k, { c with empty := fun p hp => k _ _ (c.empty p hp) }⟩
theorem obY_eq (s : PySem.W.SharedT) : obY s = hookY.obs s.abs := by
  have e : HandSHeadRun.getT s = s.abs.heap.get? := funext (HandSHeadRun.getT_eq s)
  show obsY _ = obsY _
  rw [e]
section
variable {w : World} {h : Heap} {K : Frg} {mg : Str → Option Value} {base : Heap}
theorem exAt (c : SaysY h K) (i : Nat) {b : Bool} (e : (exL K)[i]? = some b := by rfl) : b = true := List.all_eq_true.mp (show (exL K).all id = true from c.more) b (List.mem_of_getElem? e)
theorem defAt_of (c : SaysY h K) (i : Nat) {x : Str} {st : Stmt} {dfl : List He.Dv} (e : hfn[i]? = some ⟨(x, none), x, x, defArgs st, defBody st, defScope st, dfl, []⟩) (g : mg x = some (.ref (He.ga K x))) : DefAt K mg x st (dfl.map (He.Dv.v K)) := by
  obtain ⟨fd, F⟩ := c.d.def_ i e
  exact ⟨_, fd, F, g⟩
theorem metAt_of (c : SaysY h K) (i : Nat) {C m qual : Str} {st : Stmt} {dfl : List He.Dv} {kwd : List (Str × He.Dv)} (e : hfn[i]? = some ⟨(C, some m), m, qual, defArgs st, defBody st, defScope st, dfl, kwd⟩) (M : Meth K (He.ga K C) m (He.ma K (He.ga K C) m)) :
    MetAt K (He.ga K C) m qual st (dfl.map (He.Dv.v K)) (kwd.map fun q => (q.1, q.2.v K)) := by
  obtain ⟨fd, F⟩ := c.d.def_ i e
  exact ⟨_, fd, F, M⟩
theorem fi_of {C f : Addr} {m : Str} (M : Meth K C m f) (e : PySem.W.fnIn K (He.ma K C m) = true) : PySem.W.fnIn K f = true := by
  have q : He.ma K C m = f := by
    unfold He.ma
    rw [M.at_]
  rw [← q]; exact e
theorem tyF {C f : Addr} {m : Str} (M : Meth K C m f) : PySem.W.typeIn K (.ref f) = some (.type "function") := beq_iff_eq.mp M.fn
theorem excOf_nc (o : OexC K (cNC K)) (f : XfC K (cNC K)) (no : NoAttr K (cNC K) "value") (g : mg "NotChart" = some (.ref (cNC K))) (su : mg "super" = none) (M : Meth K (cNC K) "__init__" (He.ma K (cNC K) "__init__")) (X : ∃ fd, XInit PW K (cNC K) "NotChart.__init__" s_NotChart_init (iAd K "NotChart") fd) :
    ExcC PW w K mg base "NotChart" (cNC K) "value" := by
  obtain ⟨fd, X⟩ := X
  exact ⟨o, f, no, g, _, fd, _, M.at_, tyF M, nc_fn X o su no, nc_binds X⟩
theorem excOf_up (o : OexC K (cUP K)) (f : XfC K (cUP K)) (no : NoAttr K (cUP K) "name") (g : mg "UnknownPlace" = some (.ref (cUP K))) (su : mg "super" = none) (M : Meth K (cUP K) "__init__" (He.ma K (cUP K) "__init__")) (X : ∃ fd, XInit PW K (cUP K) "UnknownPlace.__init__" s_UnknownPlace_init (iAd K "UnknownPlace") fd) :
    ExcC PW w K mg base "UnknownPlace" (cUP K) "name" := by
  obtain ⟨fd, X⟩ := X
  exact ⟨o, f, no, g, _, fd, _, M.at_, tyF M, up_fn X o su no, up_binds X⟩
theorem T_of (X : K.In h) (G : h.Ns mainGlobals mg) (c : SaysY h K) : T K mg where
  n_len := He.free_ok X G (c.d.fact 0)
  n_isinstance := He.free_ok X G (c.d.fact 1)
  n_all := He.free_ok X G (c.d.fact 2)
  n_sorted := He.free_ok X G (c.d.fact 3)
  n_min := He.free_ok X G (c.d.fact 4)
  n_max := He.free_ok X G (c.d.fact 5)
  n_list := He.free_ok X G (c.d.fact 6)
  n_dict := He.free_ok X G (c.d.fact 7)
  n_set := He.free_ok X G (c.d.fact 8)
  n_sum := He.free_ok X G (c.d.fact 9)
  n_int := He.free_ok X G (c.d.fact 10)
  n_str := He.free_ok X G (c.d.fact 11)
  n_bool := He.free_ok X G (c.d.fact 12)
  n_tuple := He.free_ok X G (c.d.fact 13)
  n_zip := He.free_ok X G (c.d.fact 14)
  n_enumerate := He.free_ok X G (c.d.fact 15)
  n_range := He.free_ok X G (c.d.fact 16)
  n_repr := He.free_ok X G (c.d.fact 17)
  n_TypeError := He.free_ok X G (c.d.fact 18)
  mH := He.int_ok X G (c.d.fact 19)
  mP := He.int_ok X G (c.d.fact 20)
  clB := He.cls_ok (c.d.fact 21)
  gB := He.glo_ok X G (c.d.fact 22)
  oiB := ownB_ok (exAt c 0)
  aB_low := He.noat_ok (c.d.fact 23)
  aB_high := He.noat_ok (c.d.fact 24)
  kB := He.keep_ok (c.d.fact 25)
  mkB := (exAt c 1)
  clC := He.cls_ok (c.d.fact 26)
  gC := He.glo_ok X G (c.d.fact 27)
  oiC := ownB_ok (exAt c 2)
  aC_held := He.noat_ok (c.d.fact 28)
  aC_pairs := He.noat_ok (c.d.fact 29)
  aC_drains := He.noat_ok (c.d.fact 30)
  aC_near := He.noat_ok (c.d.fact 31)
  kC := He.keep_ok (c.d.fact 32)
  mkC := (exAt c 3)
  clL := He.cls_ok (c.d.fact 33)
  gL := He.glo_ok X G (c.d.fact 34)
  oiL := ownB_ok (exAt c 4)
  aL_chart := He.noat_ok (c.d.fact 35)
  aL_by_name := He.noat_ok (c.d.fact 36)
  kL := He.keep_ok (c.d.fact 37)
  mkL := (exAt c 5)
  d_is_height := defAt_of c 0 rfl (He.glo_ok X G (c.d.fact 38))
  d_is_name := defAt_of c 1 rfl (He.glo_ok X G (c.d.fact 39))
  d_Bounds_init := metAt_of c 2 rfl (He.meth_ok (c.d.fact 40))
  d_Bounds_contains := metAt_of c 3 rfl (He.meth_ok (c.d.fact 41))
  d_Bounds_eq := metAt_of c 4 rfl (He.meth_ok (c.d.fact 42))
  d_are_places := defAt_of c 5 rfl (He.glo_ok X G (c.d.fact 43))
  d_is_key := defAt_of c 6 rfl (He.glo_ok X G (c.d.fact 44))
  d_is_pair := defAt_of c 7 rfl (He.glo_ok X G (c.d.fact 45))
  d_pairs_told := defAt_of c 8 rfl (He.glo_ok X G (c.d.fact 46))
  d_places_told := defAt_of c 9 rfl (He.glo_ok X G (c.d.fact 47))
  d_nearby := defAt_of c 10 rfl (He.glo_ok X G (c.d.fact 48))
  d_Chart_init := metAt_of c 11 rfl (He.meth_ok (c.d.fact 49))
  d_Chart_names := metAt_of c 12 rfl (He.meth_ok (c.d.fact 50))
  d_Chart_outlets := metAt_of c 13 rfl (He.meth_ok (c.d.fact 51))
  d_Chart_neighbours := metAt_of c 14 rfl (He.meth_ok (c.d.fact 52))
  d_Chart_with_bounds := metAt_of c 15 rfl (He.meth_ok (c.d.fact 53))
  d_Chart_getitem := metAt_of c 16 rfl (He.meth_ok (c.d.fact 54))
  d_Chart_contains := metAt_of c 17 rfl (He.meth_ok (c.d.fact 55))
  d_Chart_len := metAt_of c 18 rfl (He.meth_ok (c.d.fact 56))
  d_Chart_eq := metAt_of c 19 rfl (He.meth_ok (c.d.fact 57))
  d_spread := defAt_of c 20 rfl (He.glo_ok X G (c.d.fact 58))
  d_way_back := defAt_of c 21 rfl (He.glo_ok X G (c.d.fact 59))
  d_least_level := defAt_of c 22 rfl (He.glo_ok X G (c.d.fact 60))
  d_low_bounds := defAt_of c 23 rfl (He.glo_ok X G (c.d.fact 61))
  d_high_bounds := defAt_of c 24 rfl (He.glo_ok X G (c.d.fact 62))
  d_need_chart := defAt_of c 25 rfl (He.glo_ok X G (c.d.fact 63))
  d_need_place := defAt_of c 26 rfl (He.glo_ok X G (c.d.fact 64))
  d_need_height := defAt_of c 27 rfl (He.glo_ok X G (c.d.fact 65))
  d_Land_init := metAt_of c 28 rfl (He.meth_ok (c.d.fact 66))
  d_Land_call := metAt_of c 29 rfl (He.meth_ok (c.d.fact 67))
  d_Land_eq := metAt_of c 30 rfl (He.meth_ok (c.d.fact 68))
  d_Land_heights := metAt_of c 31 rfl (He.meth_ok (c.d.fact 69))
  d_need_land := defAt_of c 32 rfl (He.glo_ok X G (c.d.fact 70))
  d_level_by := defAt_of c 33 rfl (He.glo_ok X G (c.d.fact 71))
  d_water_level := defAt_of c 34 rfl (He.glo_ok X G (c.d.fact 72))
  d_water := defAt_of c 35 rfl (He.glo_ok X G (c.d.fact 73))
  d_total_water := defAt_of c 36 rfl (He.glo_ok X G (c.d.fact 74))
  d_dry_land := defAt_of c 37 rfl (He.glo_ok X G (c.d.fact 75))
  d_least_water := defAt_of c 38 rfl (He.glo_ok X G (c.d.fact 76))
  d_wet_land := defAt_of c 39 rfl (He.glo_ok X G (c.d.fact 77))
  d_greatest_water := defAt_of c 40 rfl (He.glo_ok X G (c.d.fact 78))
  d_least_total := defAt_of c 41 rfl (He.glo_ok X G (c.d.fact 79))
  d_surely_wet := defAt_of c 42 rfl (He.glo_ok X G (c.d.fact 80))
  d_never_wet := defAt_of c 43 rfl (He.glo_ok X G (c.d.fact 81))
  d_escape := defAt_of c 44 rfl (He.glo_ok X G (c.d.fact 82))
  d_rim := defAt_of c 45 rfl (He.glo_ok X G (c.d.fact 83))
  d_law_cell := defAt_of c 46 rfl (He.glo_ok X G (c.d.fact 84))
  d_law_box := defAt_of c 47 rfl (He.glo_ok X G (c.d.fact 85))
  d_law_take := defAt_of c 48 rfl (He.glo_ok X G (c.d.fact 86))
  d_law_mixed := defAt_of c 49 rfl (He.glo_ok X G (c.d.fact 87))
  d_law_names := defAt_of c 50 rfl (He.glo_ok X G (c.d.fact 88))
  d_law_height := defAt_of c 51 rfl (He.glo_ok X G (c.d.fact 89))
  d_law_model := defAt_of c 52 rfl (He.glo_ok X G (c.d.fact 90))
  d_law_drained := defAt_of c 53 rfl (He.glo_ok X G (c.d.fact 91))
  d_law_chart := defAt_of c 54 rfl (He.glo_ok X G (c.d.fact 92))
  d_law_near := defAt_of c 55 rfl (He.glo_ok X G (c.d.fact 93))
  d_law_flood := defAt_of c 56 rfl (He.glo_ok X G (c.d.fact 94))
  d_law_is_way := defAt_of c 57 rfl (He.glo_ok X G (c.d.fact 95))
  d_law_caught := defAt_of c 58 rfl (He.glo_ok X G (c.d.fact 96))
  d_law_is := defAt_of c 59 rfl (He.glo_ok X G (c.d.fact 97))
  d_law_escape_right := defAt_of c 60 rfl (He.glo_ok X G (c.d.fact 98))
  d_law_escapes_right := defAt_of c 61 rfl (He.glo_ok X G (c.d.fact 99))
  d_law_later_right := defAt_of c 62 rfl (He.glo_ok X G (c.d.fact 100))
  d_law_refusals_right := defAt_of c 63 rfl (He.glo_ok X G (c.d.fact 101))
  d_law := defAt_of c 64 rfl (He.glo_ok X G (c.d.fact 102))
  e0 := emTB_ok (exAt c 6)
theorem T3_of (X : K.In h) (G : h.Ns mainGlobals mg) (c : SaysY h K) : T3 K mg where
  z := { t := T_of X G c, fiC := fun f m => fi_of m (exAt c 7), fiL := fun f m => fi_of m (exAt c 8), neL := neKB_ok (exAt c 9) }
  ne := of_decide_eq_true (exAt c 10)
  sp := c.d.def_ 20
  spM := He.glo_ok X G (c.d.fact 58)
  rr := c.d.def_ 63
  rrM := He.glo_ok X G (c.d.fact 101)
theorem T4_of (X : K.In h) (G : h.Ns mainGlobals mg) (c : SaysY h K) : T4 PW w K mg base := by
  have zznc : fnZ K "NotChart" = valZ "NotChart.__init__" s_NotChart_init := (List.cons.inj c.z).1
  have zzup : fnZ K "UnknownPlace" = valZ "UnknownPlace.__init__" s_UnknownPlace_init := (List.cons.inj (List.cons.inj c.z).2).1
  exact ⟨excOf_nc (oexB_ok (exAt c 11)) (xfB_ok (exAt c 12)) (He.noat_ok (c.d.fact 104)) (He.glo_ok X G (c.d.fact 105)) (He.free_ok X G (c.d.fact 103)) (He.meth_ok (c.d.fact 106)) (iniB_ok zznc (exAt c 13)),
    excOf_up (oexB_ok (exAt c 14)) (xfB_ok (exAt c 15)) (He.noat_ok (c.d.fact 107)) (He.glo_ok X G (c.d.fact 108)) (He.free_ok X G (c.d.fact 103)) (He.meth_ok (c.d.fact 109)) (iniB_ok zzup (exAt c 16)),
    He.glo_ok X G (c.d.fact 110),
    He.exm_ok (c.d.fact 111),
    He.exm_ok (c.d.fact 112),
    He.exm_ok (c.d.fact 113),
    of_decide_eq_true (exAt c 17),
    of_decide_eq_true (exAt c 18),
    of_decide_eq_true (exAt c 19),
    of_decide_eq_true (exAt c 20),
    of_decide_eq_true (exAt c 21),
    of_decide_eq_true (exAt c 22),
    of_decide_eq_true (exAt c 23)⟩
/-- what the law's promise asks of the head -/
theorem law_at (X : K.In h) (G : h.Ns mainGlobals mg) (c : SaysY h K) {fa : Addr} (hfa : mg "law" = some (.ref fa)) : LawAtG PySem.Challenge.rw_surehollows_k46_whole_escapes_and_rims w K CX0 12 63 "_law_script" mg fa h := by
  have t3 := T3_of X G c
  obtain ⟨fd, F⟩ := c.d.def_ 64
  have e := hfa.symm.trans (He.glo_ok X G (x := "law") (c.d.fact 102))
  cases e
  refine ⟨fd, htf.map (He.cT K), spLaw K, fun p hp => ?_, fun p hp => ?_, fun p hp => ?_, fun s u => ?_, fun H a ns hl _ hT hS => ⟨a, ns, rfl, hS, hl, fun p hp => ?_, fun _ => rfl⟩, fun base hK hN hB => ?_⟩
  · obtain ⟨q, hq, rfl⟩ := List.mem_map.mp hp
    exact c.empty q hq
  · obtain ⟨q, hq, rfl⟩ := List.mem_map.mp hp
    exact c.out q hq
  · obtain ⟨q, hq, rfl⟩ := List.mem_map.mp hp
    exact PySem.W.codeHd_of_K X (c.hd q hq)
  · exact FunD.bindsA (ps := ["_law_script"]) F (fun _ _ _ _ _ _ us hl => match us, hl with | [_], _ => rfl) s [u] rfl
  · rcases List.mem_cons.mp hp with z | z
    · rw [z]; exact TabS.nil (hT (He.cT K ("spread", none)) List.mem_cons_self)
    · rw [List.mem_singleton.mp z]; exact TabS.nil (hT (He.cT K ("_law_refusals_right", none)) (List.mem_cons_of_mem _ List.mem_cons_self))
  · have b3 : TBs K mg base := ⟨hB _ List.mem_cons_self, hB _ (List.mem_cons_of_mem _ List.mem_cons_self)⟩
    exact fn_bodyG F sc_Lw spLaw_len (law_body t3 b3 (T4_of X G c))
end
end SH
/-! HZ -/
set_option Elab.async false
set_option linter.all false
set_option maxRecDepth 100000
set_option maxHeartbeats 0
/-! The end. -/
namespace SH
open PySem PySem.W PySem.Calls PyProof.Rows
theorem run (w : World) : HandSHeadRun.RunEq RWw VWw hookY obY 20000 loose w := fun os => by
  have r1 := run1 w os
  have r2 := run2 w os
  have r3 := run3 w os
  show (endW w os).map _ = _
  cases e : endW w os with
  | none => rw [e] at r3; cases r3
  | some s =>
    rw [e] at r1 r2 r3
    obtain ⟨a1, a2⟩ := Prod.mk.inj (Option.some.inj r1)
    obtain ⟨b1, b'⟩ := Prod.mk.inj (Option.some.inj r2)
    obtain ⟨b2, b'⟩ := Prod.mk.inj b'
    obtain ⟨b3, b4⟩ := Prod.mk.inj b'
    have c1 : (hfn.all fun d => d.ok (Ky s)) = true := Option.some.inj r3
    refine congrArg some (Prod.ext a1 (Prod.ext a2 ?_))
    show ((((hfa.all fun f => f.ok (Ky s)) && hfn.all fun d => d.ok (Ky s), hfn.map fun d => He.fnW (Ky s) d.at_), hex (Ky s) && tabY (HandSHeadRun.getT s) (Ky s), zs (Ky s)) : AlY) = valY
    rw [b1, c1, b2, b3, b4]
    rfl
end SH
open PySem PySem.W PySem.Calls PyProof.Rows
theorem PySem.Challenge.cw_surehollows_k46_whole_escapes_and_rims_holds : PySem.Challenge.rw_surehollows_k46_whole_escapes_and_rims.Holds := by
  w_on; o_law
  refine HandSHeadRun.head_any (r := OpenLaw.row PySem.Challenge.rw_surehollows_k46_whole_escapes_and_rims) (q := view (OpenLaw.row PySem.Challenge.rw_surehollows_k46_whole_escapes_and_rims).prog [75]) (H := SH.hookY) (ob := SH.obY) (M := 20000) (loose := SH.loose) (d := HandSHeadRun.topDef (OpenLaw.row PySem.Challenge.rw_surehollows_k46_whole_escapes_and_rims).prog 75) (kwd := []) SH.obY_eq
    (by kernel_rfl) (fun s => by kernel_rfl) SH.run (by kernel_rfl) (by kernel_rfl) (by kernel_rfl) (by rfl) (by first | assumption | decide +kernel) (by decide +kernel) ⟨rfl, rfl, rfl, rfl, rfl, by decide +kernel⟩ ?hw ?hc
  case hw => w_witness2
  case hc =>
    refine SH.walk_ofTsG (l := PySem.Challenge.rw_surehollows_k46_whole_escapes_and_rims) (n := 63) (k := 12) (x := "_law_script") (CX := fun _ => L2.CX0) rfl (by decide) (by kernel_rfl) ⟨rfl, by decide, by decide⟩ ?F (fun _ _ _ _ _ z => z)
    intro w mg fa h Y G hmg0
    obtain ⟨K, KX, c⟩ := Y
    have hmg : mg ("law" : PySem.Str) = some (.ref fa) := by
      have e : (HandSHeadRun.topDef (OpenLaw.row PySem.Challenge.rw_surehollows_k46_whole_escapes_and_rims).prog 75).name = ("law" : PySem.Str) := by kernel_rfl
      rw [← e]
      exact hmg0
    exact ⟨K, KX, SH.law_at KX G c hmg⟩
