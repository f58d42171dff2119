import PyProof.Rows.All
import HandS.Lambda
import HandS.HeadWalk
import KE.KNestM
import HandS.HeadEnd
import HandS.Head2
import HandS.Head4
import HandS.HeadHook4
import PySem.Challenge.RW_popupsides_k26_errors
import Wide.All
import OpenK.AllK
import Wide.FinOn
import HandS.ForMost
import HandS.ForExc
import HandS.SetFor
import HandS.Strs
import KE.DataMinMax
import KE.IntText
import HandS.Text
import HandS.Wide
import HandS.IsInst
import HandS.CallSlots
import HandS.TupAny
import HandS.TupLe
import HandS.Style
import HandS.Conv
import HandS.Deep
import KE.DataEq
import HandS.Codes
import HandS.Dict
import PyProof.Rows.SortStr
import HandS.ExcIs
import HandS.TryOnly
import KE.KRevSl
import PyProof.Rows.SortShellAny
import HandS.Iter
import HandS.Zip
import PyProof.ZipIter
import HandS.ExcOwn
import HandS.OwnEq
import PyProof.InstEq
import KE.SortKeyHeap
import HandS.HotCalls
import HandS.ExcBuiltin
set_option Elab.async false
set_option linter.all false
set_option maxRecDepth 100000
set_option maxHeartbeats 4000000
/-! What the head is asked of the module's objects. -/
namespace PD
open PySem PySem.Spec PyProof.Rows L2
def tabA (K : PySem.W.Frag) (f : Str) : Addr := (He.cT K (f, none)).2
def dTys : List String := ["NoneType", "bool", "int", "str", "list", "tuple"]
def tupDB (K : PySem.W.Frag) (x : Str) : Bool := match K.lookup (He.ga K x) with
  | some o => (o.cls == .type "tuple") && o.dict.isNone
  | none => false
def isxB (cs : List Str) (C : Str) (K : PySem.W.Frag) : Bool := cs.all fun c => PySem.W.kitOne K (.ref (He.ga K c)) (.ref (He.ga K C)) == some (decide (c = C))
def excCB (c : Str) (K : PySem.W.Frag) : Bool :=
  (PySem.W.findIn K (.ref (He.ga K c)) "__getattribute__" == some (some (.builtin "BaseException.__getattribute__"))) && (PySem.W.findIn K (.ref (He.ga K c)) "__getattr__" == some none) &&
  (PySem.W.subIn K (.ref (He.ga K c)) (.type "BaseException") == some true) && PySem.W.hasDictIn K (He.ga K c) && (PySem.W.findIn K (.ref (He.ga K c)) "__class__" == some (some (.builtin "object.__class__"))) &&
  (PySem.W.specialIn K (.builtin "object.__class__") "__get__" == some (some (.builtin "getset_descriptor.__get__"))) && (PySem.W.takesIn K (.builtin "object.__class__") == some true) && (PySem.W.mroIn K (He.ga K c) (.type "object") == some true)
def triB (cs : List Str) (C : Str) (K : PySem.W.Frag) : Bool := cs.all fun c => (PySem.W.exmOne K (.ref (He.ga K c)) (.ref (He.ga K C)) == some true) && excCB c K
def wclsB (C : Str) (K : PySem.W.Frag) : Bool :=
  (PySem.W.findIn K (.ref (He.ga K C)) "__class__" == some (some (.builtin "object.__class__"))) && (PySem.W.specialIn K (.builtin "object.__class__") "__get__" == some (some (.builtin "getset_descriptor.__get__"))) && (PySem.W.takesIn K (.builtin "object.__class__") == some true) &&
  (PySem.W.mroIn K (He.ga K C) (.type "object") == some true) && (PySem.W.kitOne K (.ref (He.ga K C)) (.ref (He.ga K C)) == some true) && (dTys.all fun T => (PySem.W.kitOne K (.type T) (.ref (He.ga K C)) == some false) && PySem.W.notFirst K (He.ga K C) (.type T)) &&
  (PySem.W.findIn K (.ref (He.ga K C)) "__ne__" == some (some (.builtin "object.__ne__")))
def isvB (cs : List Str) (K : PySem.W.Frag) : Bool := cs.all fun c => PySem.W.kitOne K (.ref (He.ga K c)) (.type "ValueError") == some true
def tabsB (gs : List Str) (K : PySem.W.Frag) : Bool := decide (gs.map (tabA K)).Nodup
end PD
namespace LW
open PySem PD
def excs : List Str := ["InvalidAnchor", "InvalidNumber", "InvalidSetting", "InvalidSide", "InvalidSides", "InvalidSize"]
def gs : List Str := ["_law_settings", "_law_sized", "_law_anchored", "law"]
end LW
namespace LW
open PySem PySem.Spec PyProof.Rows L2 PD
def top (i : Nat) : Stmt := PySem.Challenge.pw_popupsides_k26_errors.main.body.getD i (.Pass ⟨0, 0, 0, 0⟩)
def d_is_int : He.DefD := ⟨("is_int", none), "is_int", "is_int", defArgs (top 17), defBody (top 17), defScope (top 17), [], []⟩
def d_is_size : He.DefD := ⟨("is_size", none), "is_size", "is_size", defArgs (top 18), defBody (top 18), defScope (top 18), [], []⟩
def d_is_side : He.DefD := ⟨("is_side", none), "is_side", "is_side", defArgs (top 19), defBody (top 19), defScope (top 19), [], []⟩
def d_are_sides : He.DefD := ⟨("are_sides", none), "are_sides", "are_sides", defArgs (top 20), defBody (top 20), defScope (top 20), [], []⟩
def d_is_setting : He.DefD := ⟨("is_setting", none), "is_setting", "is_setting", defArgs (top 21), defBody (top 21), defScope (top 21), [], []⟩
def d_has_anchor : He.DefD := ⟨("has_anchor", none), "has_anchor", "has_anchor", defArgs (top 22), defBody (top 22), defScope (top 22), [], []⟩
def d_check_setting : He.DefD := ⟨("check_setting", none), "check_setting", "check_setting", defArgs (top 23), defBody (top 23), defScope (top 23), [], []⟩
def d_check_anchor : He.DefD := ⟨("check_anchor", none), "check_anchor", "check_anchor", defArgs (top 24), defBody (top 24), defScope (top 24), [], []⟩
def d_is_anchor : He.DefD := ⟨("is_anchor", none), "is_anchor", "is_anchor", defArgs (top 25), defBody (top 25), defScope (top 25), [], []⟩
def d_has_room : He.DefD := ⟨("has_room", none), "has_room", "has_room", defArgs (top 26), defBody (top 26), defScope (top 26), [], []⟩
def d_do_fit : He.DefD := ⟨("do_fit", none), "do_fit", "do_fit", defArgs (top 27), defBody (top 27), defScope (top 27), [], []⟩
def d_find_fitting : He.DefD := ⟨("find_fitting", none), "find_fitting", "find_fitting", defArgs (top 28), defBody (top 28), defScope (top 28), [], []⟩
def d_find_side : He.DefD := ⟨("find_side", none), "find_side", "find_side", defArgs (top 29), defBody (top 29), defScope (top 29), [], []⟩
def d_fitting : He.DefD := ⟨("fitting", none), "fitting", "fitting", defArgs (top 30), defBody (top 30), defScope (top 30), [], []⟩
def d_side_of : He.DefD := ⟨("side_of", none), "side_of", "side_of", defArgs (top 31), defBody (top 31), defScope (top 31), [], []⟩
def d_check_size : He.DefD := ⟨("check_size", none), "check_size", "check_size", defArgs (top 33), defBody (top 33), defScope (top 33), [], []⟩
def d_all_anchors : He.DefD := ⟨("all_anchors", none), "all_anchors", "all_anchors", defArgs (top 34), defBody (top 34), defScope (top 34), [], []⟩
def d_count_places : He.DefD := ⟨("count_places", none), "count_places", "count_places", defArgs (top 35), defBody (top 35), defScope (top 35), [], []⟩
def d_find_sides : He.DefD := ⟨("find_sides", none), "find_sides", "find_sides", defArgs (top 36), defBody (top 36), defScope (top 36), [], []⟩
def d_count_side : He.DefD := ⟨("count_side", none), "count_side", "count_side", defArgs (top 37), defBody (top 37), defScope (top 37), [], []⟩
def d_find_used : He.DefD := ⟨("find_used", none), "find_used", "find_used", defArgs (top 38), defBody (top 38), defScope (top 38), [], []⟩
def d_used_sides : He.DefD := ⟨("used_sides", none), "used_sides", "used_sides", defArgs (top 39), defBody (top 39), defScope (top 39), [], []⟩
def d_is_always_beside : He.DefD := ⟨("is_always_beside", none), "is_always_beside", "is_always_beside", defArgs (top 40), defBody (top 40), defScope (top 40), [], []⟩
def d_first_over : He.DefD := ⟨("first_over", none), "first_over", "first_over", defArgs (top 41), defBody (top 41), defScope (top 41), [], []⟩
def d_centred : He.DefD := ⟨("centred", none), "centred", "centred", defArgs (top 43), defBody (top 43), defScope (top 43), [], []⟩
def d_within : He.DefD := ⟨("within", none), "within", "within", defArgs (top 44), defBody (top 44), defScope (top 44), [], []⟩
def d_find_raw : He.DefD := ⟨("find_raw", none), "find_raw", "find_raw", defArgs (top 45), defBody (top 45), defScope (top 45), [], []⟩
def d_find_place : He.DefD := ⟨("find_place", none), "find_place", "find_place", defArgs (top 46), defBody (top 46), defScope (top 46), [], []⟩
def d_check_both : He.DefD := ⟨("check_both", none), "check_both", "check_both", defArgs (top 47), defBody (top 47), defScope (top 47), [], []⟩
def d_place : He.DefD := ⟨("place", none), "place", "place", defArgs (top 48), defBody (top 48), defScope (top 48), [], []⟩
def d_common : He.DefD := ⟨("common", none), "common", "common", defArgs (top 49), defBody (top 49), defScope (top 49), [], []⟩
def d_overlap : He.DefD := ⟨("overlap", none), "overlap", "overlap", defArgs (top 50), defBody (top 50), defScope (top 50), [], []⟩
def d_covers : He.DefD := ⟨("covers", none), "covers", "covers", defArgs (top 51), defBody (top 51), defScope (top 51), [], []⟩
def d_is_moved : He.DefD := ⟨("is_moved", none), "is_moved", "is_moved", defArgs (top 52), defBody (top 52), defScope (top 52), [], []⟩
def d_free_fields : He.DefD := ⟨("free_fields", none), "free_fields", "free_fields", defArgs (top 53), defBody (top 53), defScope (top 53), [], []⟩
def d_check_start : He.DefD := ⟨("check_start", none), "check_start", "check_start", defArgs (top 55), defBody (top 55), defScope (top 55), [], []⟩
def d_differ : He.DefD := ⟨("differ", none), "differ", "differ", defArgs (top 56), defBody (top 56), defScope (top 56), [], []⟩
def d_turning_tops : He.DefD := ⟨("turning_tops", none), "turning_tops", "turning_tops", defArgs (top 57), defBody (top 57), defScope (top 57), [], []⟩
def d_turning_lefts : He.DefD := ⟨("turning_lefts", none), "turning_lefts", "turning_lefts", defArgs (top 58), defBody (top 58), defScope (top 58), [], []⟩
def d_find_way : He.DefD := ⟨("find_way", none), "find_way", "find_way", defArgs (top 59), defBody (top 59), defScope (top 59), [], []⟩
def d_way_between : He.DefD := ⟨("way_between", none), "way_between", "way_between", defArgs (top 60), defBody (top 60), defScope (top 60), [], []⟩
def d_greatest_jump : He.DefD := ⟨("greatest_jump", none), "greatest_jump", "greatest_jump", defArgs (top 61), defBody (top 61), defScope (top 61), [], []⟩
def d_set_sides : He.DefD := ⟨("set_sides", none), "set_sides", "set_sides", defArgs (top 63), defBody (top 63), defScope (top 63), [], []⟩
def d_check_sides : He.DefD := ⟨("check_sides", none), "check_sides", "check_sides", defArgs (top 64), defBody (top 64), defScope (top 64), [], []⟩
def d_with_sides : He.DefD := ⟨("with_sides", none), "with_sides", "with_sides", defArgs (top 65), defBody (top 65), defScope (top 65), [], []⟩
def d_find_parting : He.DefD := ⟨("find_parting", none), "find_parting", "find_parting", defArgs (top 66), defBody (top 66), defScope (top 66), [], []⟩
def d_do_agree : He.DefD := ⟨("do_agree", none), "do_agree", "do_agree", defArgs (top 67), defBody (top 67), defScope (top 67), [], []⟩
def d_parting_anchor : He.DefD := ⟨("parting_anchor", none), "parting_anchor", "parting_anchor", defArgs (top 68), defBody (top 68), defScope (top 68), [], []⟩
def d_needless_sides : He.DefD := ⟨("needless_sides", none), "needless_sides", "needless_sides", defArgs (top 69), defBody (top 69), defScope (top 69), [], []⟩
def d_all_lists : He.DefD := ⟨("all_lists", none), "all_lists", "all_lists", defArgs (top 70), defBody (top 70), defScope (top 70), [], []⟩
def d_shortest_list : He.DefD := ⟨("shortest_list", none), "shortest_list", "shortest_list", defArgs (top 71), defBody (top 71), defScope (top 71), [], []⟩
def d_find_tops : He.DefD := ⟨("find_tops", none), "find_tops", "find_tops", defArgs (top 73), defBody (top 73), defScope (top 73), [], []⟩
def d_find_lefts : He.DefD := ⟨("find_lefts", none), "find_lefts", "find_lefts", defArgs (top 74), defBody (top 74), defScope (top 74), [], []⟩
def d_tight_tops : He.DefD := ⟨("tight_tops", none), "tight_tops", "tight_tops", defArgs (top 75), defBody (top 75), defScope (top 75), [], []⟩
def d_tight_lefts : He.DefD := ⟨("tight_lefts", none), "tight_lefts", "tight_lefts", defArgs (top 76), defBody (top 76), defScope (top 76), [], []⟩
def d_least_length : He.DefD := ⟨("least_length", none), "least_length", "least_length", defArgs (top 77), defBody (top 77), defScope (top 77), [], []⟩
def d_least_height : He.DefD := ⟨("least_height", none), "least_height", "least_height", defArgs (top 78), defBody (top 78), defScope (top 78), [], []⟩
def d_least_width : He.DefD := ⟨("least_width", none), "least_width", "least_width", defArgs (top 79), defBody (top 79), defScope (top 79), [], []⟩
def d_greatest_gap : He.DefD := ⟨("greatest_gap", none), "greatest_gap", "greatest_gap", defArgs (top 80), defBody (top 80), defScope (top 80), [], []⟩
def d_law_pick : He.DefD := ⟨("_law_pick", none), "_law_pick", "_law_pick", defArgs (top 82), defBody (top 82), defScope (top 82), [], []⟩
def d_law_draw : He.DefD := ⟨("_law_draw", none), "_law_draw", "_law_draw", defArgs (top 83), defBody (top 83), defScope (top 83), [], []⟩
def d_law_class : He.DefD := ⟨("_law_class", none), "_law_class", "_law_class", defArgs (top 84), defBody (top 84), defScope (top 84), [], []⟩
def d_law_result : He.DefD := ⟨("_law_result", none), "_law_result", "_law_result", defArgs (top 85), defBody (top 85), defScope (top 85), [], []⟩
def d_law_all : He.DefD := ⟨("_law_all", none), "_law_all", "_law_all", defArgs (top 86), defBody (top 86), defScope (top 86), [], []⟩
def d_law_settings : He.DefD := ⟨("_law_settings", none), "_law_settings", "_law_settings", defArgs (top 87), defBody (top 87), defScope (top 87), [], []⟩
def d_law_sized : He.DefD := ⟨("_law_sized", none), "_law_sized", "_law_sized", defArgs (top 88), defBody (top 88), defScope (top 88), [], []⟩
def d_law_anchored : He.DefD := ⟨("_law_anchored", none), "_law_anchored", "_law_anchored", defArgs (top 89), defBody (top 89), defScope (top 89), [], []⟩
def d_law : He.DefD := ⟨("law", none), "law", "law", defArgs (top 90), defBody (top 90), defScope (top 90), [], []⟩
def fn : List He.DefD := [d_is_int, d_is_size, d_is_side, d_are_sides, d_is_setting, d_has_anchor, d_check_setting, d_check_anchor, d_is_anchor, d_has_room, d_do_fit, d_find_fitting, d_find_side, d_fitting, d_side_of, d_check_size, d_all_anchors, d_count_places, d_find_sides, d_count_side, d_find_used, d_used_sides, d_is_always_beside, d_first_over, d_centred, d_within, d_find_raw, d_find_place, d_check_both, d_place, d_common, d_overlap, d_covers, d_is_moved, d_free_fields, d_check_start, d_differ, d_turning_tops, d_turning_lefts, d_find_way, d_way_between, d_greatest_jump, d_set_sides, d_check_sides, d_with_sides, d_find_parting, d_do_agree, d_parting_anchor, d_needless_sides, d_all_lists, d_shortest_list, d_find_tops, d_find_lefts, d_tight_tops, d_tight_lefts, d_least_length, d_least_height, d_least_width, d_greatest_gap, d_law_pick, d_law_draw, d_law_class, d_law_result, d_law_all, d_law_settings, d_law_sized, d_law_anchored, d_law]
def fa : List He.Fa := [.glo "is_int", .glo "is_size", .glo "is_side", .glo "are_sides", .glo "is_setting", .glo "has_anchor", .glo "check_setting", .glo "check_anchor", .glo "is_anchor", .glo "has_room", .glo "do_fit", .glo "find_fitting", .glo "find_side", .glo "fitting", .glo "side_of", .glo "check_size", .glo "all_anchors", .glo "count_places", .glo "find_sides", .glo "count_side", .glo "find_used", .glo "used_sides", .glo "is_always_beside", .glo "first_over", .glo "centred", .glo "within", .glo "find_raw", .glo "find_place", .glo "check_both", .glo "place", .glo "common", .glo "overlap", .glo "covers", .glo "is_moved", .glo "free_fields", .glo "check_start", .glo "differ", .glo "turning_tops", .glo "turning_lefts", .glo "find_way", .glo "way_between", .glo "greatest_jump", .glo "set_sides", .glo "check_sides", .glo "with_sides", .glo "find_parting", .glo "do_agree", .glo "parting_anchor", .glo "needless_sides", .glo "all_lists", .glo "shortest_list", .glo "find_tops", .glo "find_lefts", .glo "tight_tops", .glo "tight_lefts", .glo "least_length", .glo "least_height", .glo "least_width", .glo "greatest_gap", .glo "_law_pick", .glo "_law_draw", .glo "_law_class", .glo "_law_result", .glo "_law_all", .glo "_law_settings", .glo "_law_sized", .glo "_law_anchored", .glo "law", .free "ValueError", .free "abs", .free "all", .free "any", .free "bool", .free "enumerate", .free "int", .free "isinstance", .free "len", .free "list", .free "max", .free "min", .free "range", .free "set", .free "sorted", .free "str", .free "tuple", .free "zip", .str "BOTTOM" "bottom", .str "LEFT" "left", .int "MAX_GAP" 5, .int "MAX_SIZE" 30, .str "OVER" "over", .str "RIGHT" "right", .glo "SIDES", .str "TOP" "top", .glo "InvalidAnchor", .exc "InvalidAnchor", .glo "InvalidNumber", .exc "InvalidNumber", .glo "InvalidSetting", .exc "InvalidSetting", .glo "InvalidSide", .exc "InvalidSide", .glo "InvalidSides", .exc "InvalidSides", .glo "InvalidSize", .exc "InvalidSize", .glo "PopupError", .exc "PopupError"]
def cB_0 (K : PySem.W.Frag) : Bool := (He.tupB K "SIDES" ((["top", "bottom", "left", "right"] : List Str).map He.Dv.str) && tupDB K "SIDES")
def cB_1 (K : PySem.W.Frag) : Bool := isxB excs "InvalidAnchor" K
def cB_2 (K : PySem.W.Frag) : Bool := isxB excs "InvalidNumber" K
def cB_3 (K : PySem.W.Frag) : Bool := isxB excs "InvalidSetting" K
def cB_4 (K : PySem.W.Frag) : Bool := isxB excs "InvalidSide" K
def cB_5 (K : PySem.W.Frag) : Bool := isxB excs "InvalidSides" K
def cB_6 (K : PySem.W.Frag) : Bool := isxB excs "InvalidSize" K
def cB_7 (K : PySem.W.Frag) : Bool := triB excs "PopupError" K
def cB_8 (K : PySem.W.Frag) : Bool := isvB excs K
def cB_9 (K : PySem.W.Frag) : Bool := tabsB gs K
def exB (K : PySem.W.Frag) : Bool := (cB_0 K && (cB_1 K && (cB_2 K && (cB_3 K && (cB_4 K && (cB_5 K && (cB_6 K && (cB_7 K && (cB_8 K && (cB_9 K && true))))))))))
abbrev RowL : PySem.W.OpenRow := PySem.W.OpenLaw.row PySem.Challenge.rw_popupsides_k26_errors
abbrev hk : PySem.W.Hook := He.hookX 4 fa fn [] (gs.map fun g => (g, none)) exB
def obL (s : PySem.W.SharedT) : He.AlX := He.obsX 4 fa fn [] (gs.map fun g => (g, none)) exB (HandSHeadRun.getT s)
theorem obL_eq (s : PySem.W.SharedT) : obL s = hk.obs s.abs := He.obsX_eq (HandSHeadRun.getT_eq s)
def namesL : List PySem.Str := (["PopupError", "InvalidSetting", "InvalidAnchor", "InvalidSide", "InvalidSize", "InvalidNumber", "InvalidSides", "MAX_SIZE", "MAX_GAP", "TOP", "BOTTOM", "LEFT", "RIGHT", "OVER", "SIDES", "is_int", "is_size", "is_side", "are_sides", "is_setting", "has_anchor", "check_setting", "check_anchor", "is_anchor", "has_room", "do_fit", "find_fitting", "find_side", "fitting", "side_of"] : List PySem.Str) ++ (["check_size", "all_anchors", "count_places", "find_sides", "count_side", "find_used", "used_sides", "is_always_beside", "first_over", "centred", "within", "find_raw", "find_place", "check_both", "place", "common", "overlap", "covers", "is_moved", "free_fields", "check_start", "differ", "turning_tops", "turning_lefts", "find_way", "way_between", "greatest_jump", "set_sides", "check_sides", "with_sides"] : List PySem.Str) ++ (["find_parting", "do_agree", "parting_anchor", "needless_sides", "all_lists", "shortest_list", "find_tops", "find_lefts", "tight_tops", "tight_lefts", "least_length", "least_height", "least_width", "greatest_gap", "_law_pick", "_law_draw", "_law_class", "_law_result", "_law_all", "_law_settings", "_law_sized", "_law_anchored"] : List PySem.Str)
theorem runL (w : World) : HandSHeadRun.RunEq RowL (PySem.W.view RowL.prog [90]) hk obL 8000 namesL w := by
  intro os
  kernel_rfl
end LW
/-! Part S0: set(t), t a tuple of texts, over the machine. -/
namespace PD
open PySem PySem.Spec PyProof.Rows L2
/-- how many different texts, those in seen aside -/
def cntS (seen : List Str) : List Str → Nat
  | [] => 0
  | x :: r => (if x ∈ seen then 0 else 1) + cntS (x :: seen) r
def distinct (xs : List Str) : Nat := cntS [] xs
theorem cntS_congr : ∀ (xs : List Str) {s1 s2 : List Str}, (∀ y, y ∈ s1 ↔ y ∈ s2) → cntS s1 xs = cntS s2 xs
  | [], _, _, _ => rfl
  | x :: r, s1, s2, h => by
    unfold cntS
    rw [cntS_congr r (s1 := x :: s1) (s2 := x :: s2) (fun y => by simp [h y])]
    by_cases hx : x ∈ s1
    · rw [if_pos hx, if_pos ((h x).mp hx)]
    · rw [if_neg hx, if_neg fun z => hx ((h x).mpr z)]
theorem cntS_le : ∀ (xs : List Str) (seen : List Str), cntS seen xs ≤ xs.length
  | [], _ => Nat.le_refl _
  | x :: r, seen => by
    unfold cntS
    have := cntS_le r (x :: seen)
    rw [List.length_cons]
    split <;> omega
theorem strAt : ∀ {us : List Value} {xs : List Str}, StrsAre us xs → ∀ (i : Nat) (v : Value), us[i]? = some v → ∃ y t, xs[i]? = some y ∧ v = .str y t
  | _, _, .nil, i, v, h => by simp at h
  | _, _, .cons n t hr, 0, v, h => by
    simp at h
    exact ⟨n, t, rfl, h.symm⟩
  | _, _, .cons n t hr, i + 1, v, h => by
    obtain ⟨y, t', e1, e2⟩ := strAt hr i v (by simpa using h)
    exact ⟨y, t', by simpa using e1, e2⟩
section
variable {pg : Program} {w : World} {A : Around}
abbrev SK (pg : Program) (w : World) := PySem.strKind pg w
/-- the set at a holds the texts of ys, c of them -/
def HasS (pg : Program) (w : World) (h : Heap) (a : Addr) (ys : List Str) (c : Nat) : Prop := h.SetOf (SK pg w) a (fun k => decide (k ∈ ys)) c
theorem HasS.stay {h h' : Heap} {a : Addr} {ys : List Str} {c : Nat} (x : HasS pg w h a ys c) (k : ∀ o, h.get? a = some o → h'.get? a = some o) : HasS pg w h' a ys c := by
  obtain ⟨o, es, ep, tb, ho, more⟩ := x
  exact ⟨o, es, ep, tb, k o ho, more⟩
theorem fillS {RR : Result → Shared → Prop} {J : Addr} {fp wr : List Addr} {G : Array GenState → Array GenState → Prop} {n : Nat} {Pv : Nat → Value → Prop} {Tn : Nat → Shared → Prop} (V : WalksS pg w A.in1 J fp wr G n Pv Tn) (a : Addr) (ha : a ∉ fp)
    (xs : List Str) (hn : n = xs.length) (hb : xs.length + 1 < scanBound) (hv : ∀ i v, Pv i v → ∃ y t, xs[i]? = some y ∧ v = .str y t) :
    ∀ (m i : Nat) (c : Nat) (s : Shared), n - i = m → i ≤ n → Tn i s → c ≤ i → HasS pg w s.heap a (xs.take i) c →
      (∀ s' c', Moved (a :: wr) G s s' → c' = c + cntS (xs.take i) (xs.drop i) → HasS pg w s'.heap a xs c' → RR (.ok (.ret .none)) s') →
      codeAny (model pg w) A (.builtin "set.update.loop" ⟨[.ref a, .ref J], []⟩) RR s := by
  have nw : a ∉ wr := fun z => ha (V.sub _ z)
  have up : ∀ b ∈ wr, b ∈ a :: wr := fun b z => List.mem_cons_of_mem _ z
  intro m
  induction m with
  | zero =>
    intro i c s e1 e2 tn hc hS fin
    have ei : i = n := by omega
    subst ei
    refine codeAny_builtin F.entry_set_update_loop ?_
    rw [Around.under_plainId F.plain_set_update_loop _]
    show wpAny _ A.in1 (pyNext (.ref J) >>= _) _ _ _
    refine wpAny_bind (V.done s _ _ tn fun s' mv => ?_)
    show wpAny _ A.in1 (ret Value.none) _ _ _
    have et : xs.take i = xs := List.take_of_length_le (by omega)
    have ed : xs.drop i = [] := List.drop_eq_nil_of_le (by omega)
    rw [et] at hS
    exact wpAny_pure (fin s' c (mv.mono up) (by rw [ed]; rfl) (hS.stay fun o e => mv.heap a o nw e))
  | succ m ih =>
    intro i c s e1 e2 tn hc hS fin
    have lt : i < n := by omega
    refine codeAny_builtin F.entry_set_update_loop ?_
    rw [Around.under_plainId F.plain_set_update_loop _]
    show wpAny _ A.in1 (pyNext (.ref J) >>= _) _ _ _
    refine wpAny_bind (V.item i s _ _ lt tn fun v s' hP tn' mv => ?_)
    obtain ⟨y, t, hy, rfl⟩ := hv i v hP
    have hS' := hS.stay (h' := s'.heap) fun o e => mv.heap a o nw e
    show wpAny _ A.in1 (holding [Value.str y t] (setAdd a (.str y t)) >>= _) _ _ _
    refine wpAny_bind (wpAny_holding ?_)
    unfold setAdd
    refine wpAny_holding (wpAny_bind ((SK pg w).pyHash (k := y) (strKind_is _ _ _ _) ?_))
    refine wpAny_setAddHashed_of (knd := SK pg w) (s := { s' with toks := s'.toks + 1 }) (strKind_is _ _ _ _) rfl hS' (by omega) fun h2 sb hS2 => ?_
    have tk1 : xs.take (i + 1) = xs.take i ++ [y] := by rw [List.take_add_one, hy]; rfl
    have hS3 : HasS pg w h2 a (xs.take (i + 1)) (if y ∈ xs.take i then c else c + 1) := by
      refine SetOf_congr hS2 (fun k => ?_) (by simp)
      rw [tk1]
      simp
    have hc3 : (if y ∈ xs.take i then c else c + 1) ≤ i + 1 := by split <;> omega
    have lti : i < xs.length := by omega
    have ed : xs.drop i = y :: xs.drop (i + 1) := by
      rw [List.drop_eq_getElem_cons lti]
      have := (List.getElem?_eq_some_iff.mp hy).2
      rw [this]
    refine wpAny_pure ⟨plainId_quiet F.plain_set_update_loop _, ih (i + 1) _ _ (by omega) lt (V.frame _ s' _ _ tn' (Nat.le_succ _) fun b z o e => ?_) hc3 hS3 fun s2 c2 mv2 ec hS4 => ?_⟩
    · rw [sb.2 b (fun q : b = a => ha (by rw [← q]; exact z))]; exact e
    · refine fin s2 c2 (Moved.trans V.gtrans ((mv.mono up).then_heap (Nat.le_succ _) fun b o z e => ?_) mv2) ?_ hS4
      · rw [sb.2 b (fun q : b = a => z (by rw [q]; exact List.mem_cons_self))]; exact e
      · rw [ec, ed]
        show _ = c + ((if y ∈ xs.take i then 0 else 1) + cntS (y :: xs.take i) (xs.drop (i + 1)))
        rw [cntS_congr (xs.drop (i + 1)) (s1 := xs.take (i + 1)) (s2 := y :: xs.take i) (fun z => by rw [tk1]; simp [or_comm])]
        split <;> omega
/-- a set that was just made -/
abbrev emptyS (led : Bool) : Obj := { cls := .type "set", dict := none, data := .set #[] 0 (.fresh 0 0 led) }
variable {E : Value → Shared → Prop} {s : Shared}
set_option maxHeartbeats 3200000 in
theorem call_setS {l : Addr} {its : Array Value} {xs : List Str} {Q : Value → Shared → Prop} (hh : A.handled = none) (hl : s.heap.IsTuple l its) (hi : StrsAre its.toList xs) (hb : xs.length + 1 < scanBound)
    (fin : ∀ (h' : Heap) (tk : Nat), HasS pg w h' s.heap.objs.size xs (distinct xs) → (∀ b o, b < s.heap.objs.size → s.heap.get? b = some o → h'.get? b = some o) → Q (.ref s.heap.objs.size) { s with heap := h', toks := tk }) :
    wpAny (model pg w) A (call (.type "set") [.ref l]) Q E s := by
  obtain ⟨c0, tl, hmro⟩ := PySem.F.called_set.mro
  have k1 := PySem.F.called_set.made
  have k2 := PySem.F.called_set.sub
  refine wpAny_call (codeAny_of_tree ?_)
  show wpAny _ _ (callAny (.type "set") _) _ _ _
  refine wpAny_pure ⟨Code.quiet_builtin _ (by decide +kernel), codeAny_builtin PySem.F.entry_type_call ?_⟩
  rw [Around.under_plain (weight_type_call_type "set" [.ref l] []) rfl]
  have k3 := PySem.F.called_set.notType
  have k4 := PySem.F.called_set.canCreate
  have k5 := PySem.F.typeCall_set_1 (.ref l)
  repeat (any_goals (first | assumption | wp_step))
  refine codeAny_mono (code_set_new_1 (.ref l) (E := E) (Q₁ := fun ob s1 => ∃ led : Bool, ob = .ref s.heap.objs.size ∧ s1 = { s with heap := s.heap.push (emptyS led) }) fun led => ⟨led, rfl, rfl⟩) fun r s1 hr => ?_
  cases r with
  | error e => exact hr
  | ok fl =>
    cases fl with
    | ret ob =>
      obtain ⟨led, rfl, rfl⟩ := hr
      have hS : (s.heap.push (emptyS led)).get? s.heap.objs.size = some (emptyS led) := Heap.get?_push_size _ rfl
      have hT : Shared.TypeIs { s with heap := s.heap.push (emptyS led) } (.ref s.heap.objs.size) "set" := ⟨_, hS, rfl⟩
      have j1 := PySem.F.called_set.init.lookup
      have j2 := PySem.F.called_set.init.bind (.ref s.heap.objs.size)
      repeat (any_goals (first | assumption | wp_step))
      refine codeAny_mono (codeAny_call_builtin (R := wants (fun r s2 => r = .none ∧ ∃ h' tk, s2 = { s with heap := h', toks := tk } ∧ HasS pg w h' s.heap.objs.size xs (distinct xs) ∧ (∀ b o, b < s.heap.objs.size → s.heap.get? b = some o → h'.get? b = some o)) E)
        PySem.F.called_set.init.plain PySem.F.entry_set_init (check_set_init_1 hT ?_)) fun r2 s2 hr2 => ?_
      · obtain ⟨⟨oc, od, dt, sl⟩, hol, hc, nl, hd⟩ := hl
        simp only at hc hd
        subst hc hd
        have hol' : (s.heap.push (emptyS led)).get? l = some { cls := .type "tuple", dict := od, data := .seq its nl, slots := sl } := Heap.get?_push_of_some _ hol
        have i1 := PySem.F.sub_tuple_set
        have i2 := PySem.F.sub_tuple_frozenset
        have i3 : (Value.type "tuple" == Value.type "dict") = false := by decide
        have hl1 : (s.heap.push (emptyS led)).IsTuple l its := ⟨_, hol', rfl, nl, rfl⟩
        unfold Builtin.«set.__init__» noKeywords Builtin.Frozenset.updateFrom
        generalize hPI : pyIter = PI
        wp_walk
        subst hPI
        refine wpAny_pyIter_tuple hl1 (wpAny_bind (wpAny_runValue ?_))
        have lS : l < s.heap.objs.size := Heap.lt_size hol
        have h3 : A.in1.in1.in1.handled = none := by simp [hh]
        have nI : l ≠ (s.heap.push (emptyS led)).objs.size := by
          rw [Heap.size_push]; exact Nat.ne_of_lt (Nat.lt_succ_of_lt lS)
        have nf : s.heap.objs.size ∉ [(s.heap.push (emptyS led)).objs.size, l] := by
          rw [Heap.size_push]
          intro z
          rcases List.mem_cons.mp z with z | z
          · exact absurd z (Nat.ne_of_lt (Nat.lt_succ_self _))
          · exact absurd (List.mem_singleton.mp z) (Nat.ne_of_gt lS)
        have sz : its.size = xs.length := by rw [← Array.length_toList]; exact StrsAre.len_eq hi
        refine fillS ((Walks.tuple h3 _ l nI its).toS) s.heap.objs.size nf xs sz hb (fun i v q => strAt hi i v (by rw [Array.getElem?_toList]; exact q)) (its.size - 0) 0 0 _ (by omega) (Nat.zero_le _) ⟨⟨_, Heap.get?_push_size _ rfl, rfl, rfl⟩, (hl1.push _)⟩ (Nat.le_refl _) ?S0 ?RR
        case S0 =>
          have g2 : ((s.heap.push (emptyS led)).push { cls := .type "tuple_iterator", data := .fields #[.ref l, .int 0 0] }).get? s.heap.objs.size = some (emptyS led) := Heap.get?_push_of_some _ hS
          exact SetOf_congr ((setObjOf_fresh (knd := SK pg w) led).setOf g2 (by unfold scanBound; omega)) (fun _ => by simp) rfl
        case RR =>
          intro s3 c3 mv ec hS3
          obtain ⟨h', g3, d3, tk3, os3⟩ := s3
          have eg : g3 = s.gens := mv.gens
          have ed : d3 = s.drawn := mv.drawn
          have eo : os3 = s.os := mv.os
          subst eg ed eo
          have ec' : c3 = distinct xs := by rw [ec]; simp [distinct]
          subst ec'
          show wpAny _ _ _ _ _ _
          refine wpAny_pure ?_
          show wpAny _ _ (ret Value.none) _ _ _
          refine wpAny_pure ⟨rfl, h', tk3, rfl, hS3, fun b o q e => ?_⟩
          refine mv.heap b o (fun z => ?_) (Heap.get?_push_of_some _ (Heap.get?_push_of_some _ e))
          rcases List.mem_cons.mp z with z | z
          · exact absurd z (Nat.ne_of_lt q)
          · have z2 := List.mem_singleton.mp z
            rw [Heap.size_push] at z2
            exact absurd z2 (Nat.ne_of_lt (Nat.lt_succ_of_lt q))
      · cases r2 with
        | error e => exact hr2
        | ok fl2 =>
          cases fl2 with
          | ret r =>
            obtain ⟨rfl, h', tk, rfl, hS', hk'⟩ := hr2
            repeat (any_goals (first | assumption | wp_step))
            exact fin _ _ hS' hk'
          | _ => exact hr2.elim
    | _ => exact hr.elim
end
end PD
/-! Part A: a small language of plain data, and what its texts mean. No machine in sight. -/
namespace PD
open PySem L2

/-- what a name may hold: data; a cell of the store; a tuple that holds such; the script; a def; a caught error -/
inductive U where
  | d (x : PyData)
  | loc (n : Nat)
  | tl (us : List U)
  | ll (us : List U)
  | scr (ns : List Int)
  | fn (x : Str)
  | exn (c : Str)
  | clo (x : Str) (ds : List PyData)

/-- a lambda without parameters: it calls a def; what it hands over: a name of the frame that makes it (its slot), or a constant -/
abbrev Lam := Str × List (Sum Nat PyData)

inductive Cell where
  | dead
  | lst (ds : List PyData)
  | dct (kvs : List (Key × PyData))
  | ins (c : Str) (fs : List (Str × U))
  | tab (f : Str)

abbrev Store := List Cell
abbrev Rho := List (Option U)

/-- what a def gives back -/
inductive R where
  | ok (x : PyData)
  | exc (c : Str)
  | bad

inductive Res (α : Type) where
  | ok (a : α) (S : Store)
  | exc (c : Str) (S : Store)
  | bad

def Res.bind {α β : Type} : Res α → (α → Store → Res β) → Res β
  | .ok a S, f => f a S
  | .exc c S, _ => .exc c S
  | .bad, _ => .bad
@[simp] theorem Res.ok_bind {α β : Type} (a : α) (S : Store) (f : α → Store → Res β) : (Res.ok a S).bind f = f a S := rfl
@[simp] theorem Res.exc_bind {α β : Type} (c : Str) (S : Store) (f : α → Store → Res β) : (Res.exc c S : Res α).bind f = .exc c S := rfl
@[simp] theorem Res.bad_bind {α β : Type} (f : α → Store → Res β) : (Res.bad : Res α).bind f = .bad := rfl
/-- no error may leave -/
def Res.calm {α : Type} : Res α → Res α
  | .exc _ _ => .bad
  | r => r
@[simp] theorem Res.calm_ok {α : Type} (a : α) (S : Store) : (Res.ok a S).calm = .ok a S := rfl

def lift {α : Type} (o : Option α) (S : Store) : Res α := match o with
  | some a => .ok a S
  | none => .bad
@[simp] theorem lift_some {α : Type} (a : α) (S : Store) : lift (some a) S = .ok a S := rfl
@[simp] theorem lift_none {α : Type} (S : Store) : lift (none : Option α) S = .bad := rfl

/-! ### reading -/
def rd (S : Store) : U → Option PyData
  | .d x => some x
  | .loc n => (match S[n]? with | some (.lst ds) => some (.list ds) | _ => none)
  | .scr ns => some (.list (ns.map .int))
  | _ => none
/-- .. without the script -/
def rd1 (S : Store) : U → Option PyData
  | .d x => some x
  | .loc n => (match S[n]? with | some (.lst ds) => some (.list ds) | _ => none)
  | _ => none
def rds (S : Store) : List U → Option (List PyData)
  | [] => some []
  | u :: us => (rd S u).bind fun x => (rds S us).map (x :: ·)
def asD : U → Option PyData
  | .d x => some x
  | _ => none
def asDs : List U → Option (List PyData)
  | [] => some []
  | u :: us => (asD u).bind fun x => (asDs us).map (x :: ·)
def asB : U → Option Bool
  | .d (.bool b) => some b
  | _ => none
mutual
def U.closed : U → Bool
  | .d _ => true
  | .scr _ => true
  | .fn _ => true
  | .clo _ _ => true
  | .ll us => U.closeds us
  | _ => false
def U.closeds : List U → Bool
  | [] => true
  | u :: us => u.closed && U.closeds us
end
theorem U.closeds_all : ∀ us : List U, U.closeds us = us.all U.closed
  | [] => rfl
  | u :: us => by rw [U.closeds, List.all_cons, U.closeds_all us]

/-! ### tuples of texts -/
def strA : List PyData → Bool
  | [] => true
  | .str _ :: r => strA r
  | _ :: _ => false
/-- not empty, and all of it texts -/
def strT : List PyData → Bool
  | .str _ :: r => strA r
  | _ => false

/-! ### operators -/
inductive Bop where | add | sub | mul | fdiv | mod | pow
inductive Cop where | eq | ne | lt | le | gt | ge | isin | notin | is | isnot
def smallI (i : Int) : Bool := decide (-(2 ^ 64) < i) && decide (i < 2 ^ 64)
def Bop.sem : Bop → PyData → PyData → Option PyData
  | .add, .int i, .int j => some (.int (i + j))
  | .add, .str x, .str y => if x.length + y.length ≤ sizeLine then some (.str (x ++ y)) else none
  | .add, .list xs, .list ys => if xs.length + ys.length ≤ sizeLine then some (.list (xs ++ ys)) else none
  | .add, .tuple xs, .tuple ys => if xs.length + ys.length ≤ sizeLine ∧ strT (xs ++ ys) = false then some (.tuple (xs ++ ys)) else none
  | .sub, .int i, .int j => some (.int (i - j))
  | .mul, .int i, .int j => if smallI i || smallI j then some (.int (i * j)) else none
  | .mul, .list xs, .int k => if 0 ≤ k ∧ k < 1000 ∧ xs.length * k.toNat ≤ sizeLine then some (.list (List.replicate k.toNat xs).flatten) else none
  | .fdiv, .int i, .int j => if 0 < j ∧ j < 2 ^ 64 then some (.int (i / j)) else none
  | .mod, .int i, .int j => if 0 < j then some (.int (i % j)) else none
  | .pow, .int i, .int j => if 0 ≤ j ∧ j ≤ 1000 ∧ smallI i then some (.int (i ^ j.toNat)) else none
  | _, _, _ => none
def eqD (x y : PyData) : Option Bool := if min x.depth y.depth ≤ 64 then some (PyData.eqv x y) else none
def inD (x : PyData) : PyData → Option Bool
  | .list ys => if min (PyData.depthAll ys) x.depth ≤ 64 then some (ys.any fun y => PyData.eqv y x) else none
  | .tuple ys => if min (PyData.depthAll ys) x.depth ≤ 64 then some (ys.any fun y => PyData.eqv y x) else none
  | .str t => (match x with | .str z => some (!(Builtin.Str.occurrences t z 0 t.length 1).isEmpty) | _ => none)
  | _ => none
def isNoneD : PyData → Bool
  | .none => true
  | _ => false
def isD (x : PyData) : PyData → Option Bool
  | .none => some (isNoneD x)
  | .bool b => (match x with | .bool c => some (decide (c = b)) | _ => none)
  | _ => none
def ltI (f : Int → Int → Bool) : PyData → PyData → Option Bool
  | .int i, .int j => some (f i j)
  | _, _ => none
def Cop.sem : Cop → PyData → PyData → Option Bool
  | .eq, x, y => eqD x y
  | .ne, x, y => (eqD x y).map not
  | .lt, x, y => ltI (fun i j => decide (i < j)) x y
  | .le, x, y => ltI (fun i j => decide (i ≤ j)) x y
  | .gt, x, y => ltI (fun i j => decide (j < i)) x y
  | .ge, x, y => ltI (fun i j => decide (j ≤ i)) x y
  | .isin, x, y => inD x y
  | .notin, x, y => (inD x y).map not
  | .is, x, y => isD x y
  | .isnot, x, y => (isD x y).map not
inductive Ty where | int | bool | str | tuple | list
def Ty.name : Ty → String
  | .int => "int" | .bool => "bool" | .str => "str" | .tuple => "tuple" | .list => "list"
def Ty.sem : Ty → PyData → Bool
  | .int, .int _ => true
  | .int, .bool _ => true
  | .bool, .bool _ => true
  | .str, .str _ => true
  | .tuple, .tuple _ => true
  | .list, .list _ => true
  | _, _ => false

/-! ### built-ins -/
inductive Blt where | len | max2 | min2 | maxL | abs | list | tuple | lenSet | all | any | lrg1 | lrg2 | sortS | str | int | minL | sortI
def ints? : List PyData → Option (List Int)
  | [] => some []
  | .int i :: r => (ints? r).map (i :: ·)
  | _ :: _ => none
def strs? : List PyData → Option (List Str)
  | [] => some []
  | .str i :: r => (strs? r).map (i :: ·)
  | _ :: _ => none
def bools? : List PyData → Option (List Bool)
  | [] => some []
  | .bool i :: r => (bools? r).map (i :: ·)
  | _ :: _ => none
def maxI : List Int → Int
  | [] => 0
  | [x] => x
  | x :: r => max x (maxI r)
def rangeD (lo hi : Int) : List PyData := (List.range (hi - lo).toNat).map fun (k : Nat) => PyData.int (lo + k)
def insS (x : Str) : List Str → List Str
  | [] => [x]
  | y :: r => if PySem.Spec.ltCps y.cps.toList x.cps.toList then y :: insS x r else x :: y :: r
def sortStr : List Str → List Str
  | [] => []
  | x :: r => insS x (sortStr r)
def alikeB (l : List PyData) : Bool := l.all fun a => !(match a with | .none => true | _ => false) && l.all fun b => PySem.W.alike a b
def insI (x : Int) : List Int → List Int
  | [] => [x]
  | y :: r => if y < x then y :: insI x r else x :: y :: r
def sortInt : List Int → List Int
  | [] => []
  | x :: r => insI x (sortInt r)
def Blt.sem : Blt → List PyData → Option PyData
  | .minL, [.list (x :: xs)] => if alikeB (x :: xs) = true ∧ PyData.depthAll (x :: xs) ≤ 60 then some (PySem.W.minD x xs) else none
  | .sortI, [.tuple xs] => (ints? xs).bind fun ns => if ns.length < 64 then some (.list ((sortInt ns).map .int)) else none
  | .len, [.list xs] => some (.int xs.length)
  | .len, [.tuple xs] => some (.int xs.length)
  | .len, [.str x] => if x.length ≤ sizeLine then some (.int x.length) else none
  | .max2, [.int i, .int j] => some (.int (if j > i then j else i))
  | .min2, [.int i, .int j] => some (.int (if j < i then j else i))
  | .maxL, [.list xs] => (ints? xs).bind fun ns => if ns = [] then none else some (.int (maxI ns))
  | .abs, [.int i] => some (.int (if i < 0 then -i else i))
  | .list, [.list xs] => some (.list xs)
  | .list, [.tuple xs] => some (.list xs)
  | .tuple, [.list xs] => some (.tuple xs)
  | .tuple, [.tuple xs] => some (.tuple xs)
  | .lenSet, [.tuple xs] => (strs? xs).bind fun ss => if ss.length ≤ 1000 then some (.int (distinct ss)) else none
  | .all, [.list xs] => (bools? xs).map fun bs => .bool (bs.all id)
  | .any, [.list xs] => (bools? xs).map fun bs => .bool (bs.any id)
  | .lrg1, [.int n] => if n ≤ 100000 ∧ -100000 ≤ n then some (.list (rangeD 0 n)) else none
  | .lrg2, [.int m, .int n] => if n ≤ 100000 ∧ -100000 ≤ m ∧ m ≤ 100000 ∧ -100000 ≤ n ∧ n - m ≤ 100000 then some (.list (rangeD m n)) else none
  | .sortS, [.tuple xs] => (strs? xs).bind fun ss => if ss.length < 64 then some (.list ((sortStr ss).map .str)) else none
  | .int, [.str a] => if a.length ≤ 640 then (PySem.intText? a).map .int else none
  | .str, [.int i] => if i.natAbs < 1000000 then some (.str (toString i)) else none
  | _, _ => none
inductive Mth where | count | index | indexT | join | split
def countD (x : PyData) (ys : List PyData) : Int := ((ys.filter fun y => PyData.eqv y x).length : Int)
def indexD (x : PyData) : List PyData → Option Nat
  | [] => none
  | y :: r => if PyData.eqv y x then some 0 else (indexD x r).map (· + 1)
def Mth.sem : Mth → PyData → List PyData → Option PyData
  | .count, .list ys, [x] => if min (PyData.depthAll ys) x.depth ≤ 64 then some (.int (countD x ys)) else none
  | .index, .list ys, [x] => if min (PyData.depthAll ys) x.depth ≤ 64 then (indexD x ys).map fun (j : Nat) => PyData.int (j : Int) else none
  | .join, .str a, [.list ds] => (strs? ds).bind fun ys => if (ys.map (·.length)).sum + ys.length * a.length ≤ 16777216 then some (.str (Txt.join a ys)) else none
  | .join, .str a, [.tuple ds] => (strs? ds).bind fun ys => if (ys.map (·.length)).sum + ys.length * a.length ≤ 16777216 then some (.str (Txt.join a ys)) else none
  | .split, .str a, [.str b] => if (b.length == 0) = false ∧ a.length + 2 ≤ sizeLine then some (.list ((Txt.split a b).map .str)) else none
  | .indexT, .tuple ys, [.str z] => if strT ys = true then (indexD (.str z) ys).map fun (j : Nat) => PyData.int (j : Int) else none
  | _, _, _ => none

/-! ### indexes and slices -/
def idxD : PyData → PyData → Option PyData
  | .list xs, .int i => atI xs i
  | .tuple xs, .int i => atI xs i
  | .str z, .int i => if z.length ≤ sizeLine then (atI z.cps.toList i).map fun c => .str ⟨#[c]⟩ else none
  | _, _ => none
def cutD (xs : List PyData) (lo hi : Option Int) : List PyData := (xs.drop (HT.sIx xs.length 0 lo)).take (HT.sIx xs.length xs.length hi - HT.sIx xs.length 0 lo)
def slcD (lo hi : Option Int) : PyData → Option PyData
  | .list xs => some (.list (cutD xs lo hi))
  | .str z => if z.length ≤ sizeLine then some (.str (Txt.slice z lo hi)) else none
  | .tuple xs => if strT (cutD xs lo hi) = false then some (.tuple (cutD xs lo hi)) else none
  | _ => none

def revD : PyData → Option PyData
  | .list xs => some (.list xs.reverse)
  | .tuple xs => if strT xs.reverse = false then some (.tuple xs.reverse) else none
  | _ => none

/-! ### the texts -/
/-- a def that gives data for data -/
structure FE where
  name : Str
  ps : List Str
  m : List U → R

/-- a def that works on the caller's store -/
structure FS where
  name : Str
  ps : List Str
  m : List U → Store → Res U

inductive Tg where
  | name (i : Nat)
  | tup (is : List Nat)

mutual
inductive P where
  | var (i : Nat)
  | frz (i : Nat)
  | cst (x : PyData)
  | glb (x : Str) (v : PyData)
  | fnv (x : Str)
  | bin (o : Bop) (a b : P)
  | neg (a : P)
  | nt (a : P)
  | cmp (o : Cop) (a b : P)
  | chn (o o' : Cop) (a b c : P)
  | bop (an : Bool) (ps : Ps)
  | ife (c a b : P)
  | call (fe : FE) (ps : Ps)
  | call0 (fe : FE)
  | lset (a : P)
  | lrg1 (a : P)
  | lrg2 (a b : P)
  | blt (b : Blt) (ps : Ps)
  | isi (a : P) (t : Ty)
  | idx (a b : P)
  | slc (a : P) (lo hi : O)
  | tup (ps : Ps)
  | lst (ps : Ps)
  | newl (ps : Ps)
  | mth (m : Mth) (a : P) (ps : Ps)
  | app (i : Nat) (a : P)
  | ext (i : Nat) (a : P)
  | popA (i : Nat) (a : P)
  | pop (i : Nat)
  | newd (ks : List Str) (ps : Ps)
  | dget (a b : P)
  | lc (own : List (Str × Nat)) (g : Tg) (it : It) (c : O) (e : P)
  | lc2 (own : List (Str × Nat)) (g : Tg) (it : It) (g1 : Tg) (it1 : It) (c : O) (e : P)
  | rev (a : P)
  | newlc (a : P)
  | newd0
  | dget2 (a k d : P)
  | callx (fes : List FE) (w : P) (ps : Ps)
  | isx (i : Nat) (cs : List Str) (C : Str)
  | calls (fs : FS) (ps : Ps)
  | mcall (C : Str) (fs : FS) (a : P) (ps : Ps)
  | make (C : Str) (fs : FS) (ps : Ps)
  | attr (C : Str) (a : P) (f : Str)
  | appE (a b : P)
  | popE (a : P)
  | lenO (C : Str) (fs : FS) (a : P)
  | eqO (ng : Bool) (C : Str) (fs : FS) (a b : P)
  | isw (a : P) (C : Str)
  | callN (fe : FE) (ps : Ps)
  | lstL (ps : Ps)
  | insA (i : Nat) (a b : P)
  | sortA (f : Str) (i : Nat) (a : P)
  | callC (fes : List FE) (i : Nat)
  | callH (fe : FE) (i : Nat)
  | isv (i : Nat) (cs : List Str)
  | allM (fe : FE) (f : Str) (n : Nat) (ls : List Lam) (ps : Ps) (nm : Str)
  | allL (fe : FE) (f : Str) (l : Lam) (nm : Str)
inductive Ps where
  | nil
  | cons (a : P) (r : Ps)
inductive O where
  | no
  | yes (a : P)
inductive It where
  | ex (a : P)
  | rg1 (a : P)
  | rg2 (a b : P)
  | enm (a : P)
  | zp3 (ps : Ps)
  | exs (a : P)
end

inductive Out where
  | next (r : Rho) (S : Store)
  | ret (u : U) (S : Store)
  | brk (r : Rho) (S : Store)
  | cont (r : Rho) (S : Store)
  | exc (c : Str) (r : Rho) (S : Store)
  | bad

mutual
inductive Sx where
  | asg (g : Tg) (a : P)
  | par (i j : Nat) (a b : P)
  | par3 (i j k : Nat) (a b c : P)
  | expr (a : P)
  | ite (c : P) (a b : Ss)
  | ret (a : P)
  | retN
  | forr (g : Tg) (it : It) (b : Ss)
  | whil (n : Nat) (c : P) (b : Ss)
  | rais (c : Str)
  | pass
  | dput (a k v : P)
  | tryx (cs : List Str) (C : Str) (i : Nat) (body hand : Ss)
  | setf (C : Str) (a : P) (f : Str) (v : P)
  | setf2 (C : Str) (a : P) (f : Str) (b : P) (g : Str) (x y : P)
  | lamI (fe : FE) (f : Str) (i : Nat) (ls : List Lam) (nm : Str)
  | lamR (fe : FE) (f : Str) (i : Nat) (ls : List Lam) (nm : Str) (a : P)
inductive Ss where
  | nil
  | cons (a : Sx) (r : Ss)
end

/-! ### what they mean -/
def op2 (f : PyData → PyData → Option PyData) (u w : U) (S : Store) : Res U :=
  match rd1 S u, rd1 S w with
  | some x, some y => (match f x y with | some z => .ok (.d z) S | none => .bad)
  | _, _ => .bad
def cmp2 (f : PyData → PyData → Option Bool) (u w : U) (S : Store) : Res U :=
  match rd S u, rd S w with
  | some x, some y => (match f x y with | some z => .ok (.d (.bool z)) S | none => .bad)
  | _, _ => .bad
def negU (u : U) (S : Store) : Res U := match u with
  | .d (.int i) => .ok (.d (.int (-i))) S
  | _ => .bad
def callU (fe : FE) (us : List U) (S : Store) : Res U :=
  if us.length == fe.ps.length && us.all U.closed then (match fe.m us with
    | .ok x => .ok (.d x) S
    | .exc c => .exc c S
    | .bad => .bad) else .bad
/-- a def that gives a new list -/
def callNU (fe : FE) (us : List U) (S : Store) : Res U :=
  if us.length == fe.ps.length && us.all U.closed then (match fe.m us with
    | .ok (.list xs) => .ok (.loc S.length) (S ++ [.lst xs])
    | .exc c => .exc c S
    | _ => .bad) else .bad
def bltU (b : Blt) (us : List U) (S : Store) : Res U :=
  match rds S us with
  | some xs => (match b.sem xs with | some z => .ok (.d z) S | none => .bad)
  | none => .bad
def isiU (t : Ty) (u : U) (S : Store) : Res U :=
  match rd S u with
  | some x => .ok (.d (.bool (t.sem x))) S
  | none => .bad
def idxU (u w : U) (S : Store) : Res U :=
  match u, w with
  | .tl us, .d (.int i) => (match atI us i with | some z => .ok z S | none => .bad)
  | u, .d y => (match rd S u with
    | some x => (match idxD x y with | some z => .ok (.d z) S | none => .bad)
    | none => .bad)
  | _, _ => .bad
def slcU (u : U) (lo hi : Option Int) (S : Store) : Res U :=
  match rd S u with
  | some x => (match slcD lo hi x with | some z => .ok (.d z) S | none => .bad)
  | none => .bad
def revU (u : U) (S : Store) : Res U :=
  match rd S u with
  | some x => (match revD x with | some z => .ok (.d z) S | none => .bad)
  | none => .bad
/-- which of several defs is called -/
def pickF (fes : List FE) : U → Option FE
  | .d (.int i) => atI fes i
  | _ => none
/-- is the caught error one of C? all of cs are classes beside each other -/
def isxU (r : Rho) (i : Nat) (cs : List Str) (C : Str) (S : Store) : Res U := match r[i]? with
  | some (some (.exn c)) => if c ∈ cs then .ok (.d (.bool (decide (c = C)))) S else .bad
  | _ => .bad
mutual
def U.noExn : U → Bool
  | .exn _ => false
  | .tl us => U.noExns us
  | .ll us => U.noExns us
  | _ => true
def U.noExns : List U → Bool
  | [] => true
  | u :: us => u.noExn && U.noExns us
end
def Cell.noExn : Cell → Bool
  | .ins _ fs => U.noExns (fs.map (·.2))
  | _ => true
/-- what leaves a suite: a value, none of it the caught error -/
def handOut : Out → Out
  | .ret u S => if u.noExn && S.all Cell.noExn then .ret u S else .bad
  | _ => .bad
/-! closures -/
/-- a closure that raises -/
def callCU (fes : List FE) (r : Rho) (i : Nat) (S : Store) : Res U := match r[i]? with
  | some (some (.clo x ds)) => (match fes.find? (fun fe => decide (fe.name = x)) with
    | some fe => if ds.length = fe.ps.length then (match fe.m (ds.map .d) with | .exc c => .exc c S | _ => .bad) else .bad
    | none => .bad)
  | _ => .bad
/-- a def that is handed the caught error, and gives a text -/
def callHU (fe : FE) (r : Rho) (i : Nat) (S : Store) : Res U := match r[i]? with
  | some (some (.exn c)) => (match fe.m [.exn c] with | .ok (.str x) => .ok (.d (.str x)) S | _ => .bad)
  | _ => .bad
def isvU (r : Rho) (i : Nat) (cs : List Str) (S : Store) : Res U := match r[i]? with
  | some (some (.exn c)) => if c ∈ cs then .ok (.d (.bool true)) S else .bad
  | _ => .bad
def argOf (g : Nat → Option PyData) : Sum Nat PyData → Option PyData
  | .inl j => g j
  | .inr d => some d
def argsOf (g : Nat → Option PyData) : List (Sum Nat PyData) → Option (List PyData)
  | [] => some []
  | a :: r => (argOf g a).bind fun d => (argsOf g r).map (d :: ·)
def closOf (g : Nat → Option PyData) : List Lam → Option (List U)
  | [] => some []
  | l :: r => (argsOf g l.2).bind fun ds => (closOf g r).map (.clo l.1 ds :: ·)
def slotD (r : Rho) (j : Nat) : Option PyData := match r[j]? with
  | some (some (.d x)) => some x
  | _ => none
def hasTab (f : Str) (S : Store) : Bool := S.any fun c => match c with
  | .tab g => decide (g = f)
  | _ => false
def allU (fe : FE) (f : Str) (g : Nat → Option PyData) (ls : List Lam) (nm : Str) (S : Store) : Res U :=
  if hasTab f S = true ∧ fe.ps.length = 2 then (match closOf g ls with
    | some cs => (match fe.m [.ll cs, .d (.str nm)] with | .ok (.bool b) => .ok (.d (.bool b)) S | _ => .bad)
    | none => .bad) else .bad
def tupU (us : List U) (S : Store) : Res U := match asDs us with
  | some xs => .ok (.d (.tuple xs)) S
  | none => .ok (.tl us) S
def lstU (us : List U) (S : Store) : Res U := match asDs us with
  | some xs => .ok (.d (.list xs)) S
  | none => .bad
def newlU (us : List U) (S : Store) : Res U := match asDs us with
  | some xs => .ok (.loc S.length) (S ++ [.lst xs])
  | none => .bad
/-- what a method is asked of -/
def recvU (m : Mth) (S : Store) (u : U) : Bool := match m, rd S u with
  | .count, some (.list _) => true
  | .index, some (.list _) => true
  | .indexT, some (.tuple ys) => strT ys
  | .join, some (.str _) => true
  | .split, some (.str _) => true
  | _, _ => false
def mthU (m : Mth) (u : U) (us : List U) (S : Store) : Res U :=
  match rd S u, rds S us with
  | some x, some xs => (match m.sem x xs with | some z => .ok (.d z) S | none => .bad)
  | _, _ => .bad
def cellAt (r : Rho) (S : Store) (i : Nat) : Option (Nat × List PyData) := match r[i]? with
  | some (some (.loc n)) => (match S[n]? with | some (.lst ds) => some (n, ds) | _ => none)
  | _ => none
def appU (r : Rho) (i : Nat) (u : U) (S : Store) : Res U := match cellAt r S i, asD u with
  | some (n, ds), some x => if ds.length < sizeLine then .ok (.d .none) (S.set n (.lst (ds ++ [x]))) else .bad
  | _, _ => .bad
def insU (r : Rho) (i : Nat) (u w : U) (S : Store) : Res U := match cellAt r S i, u, asD w with
  | some (n, ds), .d (.int k), some x => if ds.length < sizeLine ∧ 0 ≤ k ∧ k < 1000 then .ok (.d .none) (S.set n (.lst (ds.take k.toNat ++ [x] ++ ds.drop k.toNat))) else .bad
  | _, _, _ => .bad
def absZ (i : Int) : Int := if i < 0 then -i else i
def nearLe (a : Int) : Int → Int → Bool := fun x y => decide (absZ (x - a) ≤ absZ (y - a))
def Cell.isTab : Cell → Bool
  | .tab _ => true
  | _ => false
/-- sorted(u, key=lambda one: abs(one - x)), x the name at i; f: the def whose table of code objects is written -/
def sortAU (f : Str) (r : Rho) (i : Nat) (u : U) (S : Store) : Res U := match u, (r[i]? : Option (Option U)), (S[0]? : Option Cell) with
  | .d (.list ds), some (some (.d (.int a))), some (.tab g) => if g = f ∧ (S.drop 1).all (fun c => !c.isTab) = true then (match ints? ds with | some ns => .ok (.d (.list ((ns.mergeSort (nearLe a)).map .int))) S | none => .bad) else .bad
  | _, _, _ => .bad
def extU (r : Rho) (i : Nat) (u : U) (S : Store) : Res U := match cellAt r S i, u with
  | some (n, ds), .d (.list xs) => if ds.length + xs.length ≤ sizeLine then .ok (.d .none) (S.set n (.lst (ds ++ xs))) else .bad
  | _, _ => .bad
def popAU (r : Rho) (i : Nat) (u : U) (S : Store) : Res U := match cellAt r S i, u with
  | some (n, ds), .d (.int j) => if 0 ≤ j ∧ j < 1000000 then (match ds[j.toNat]? with
    | some x => .ok (.d x) (S.set n (.lst (ds.eraseIdx j.toNat)))
    | none => .bad) else .bad
  | _, _ => .bad
def popU (r : Rho) (i : Nat) (S : Store) : Res U := match cellAt r S i with
  | some (n, ds) => (match ds[ds.length - 1]? with
    | some x => .ok (.d x) (S.set n (.lst ds.dropLast))
    | none => .bad)
  | none => .bad
/-! tables -/
abbrev TabD := List (Key × PyData)
def keyD : PyData → Option Key
  | .int i => some (.inl i)
  | .str x => some (.inr x)
  | _ => none
def getK (t : TabD) (k : Key) : Option PyData := (t.find? fun kv => decide (kv.1 = k)).map (·.2)
def putD (t : TabD) (k : Key) (x : PyData) : TabD := if (t.any fun kv => decide (kv.1 = k)) = true then t.map (fun kv => if kv.1 = k then (kv.1, x) else kv) else t ++ [(k, x)]
def mergeD (t more : TabD) : TabD := more.foldl (fun acc kv => putD acc kv.1 kv.2) t
def tabAt (S : Store) : U → Option (Nat × TabD)
  | .loc n => (match S[n]? with | some (.dct t) => some (n, t) | _ => none)
  | _ => none
def newdU (n : Nat) (ks : List Str) (us : List U) (S : Store) : Res U := match S[n]?, asDs us with
  | some (.dct []), some xs => if ks.length ≤ 15 then .ok (.loc n) (S.set n (.dct (mergeD [] ((ks.map Sum.inr).zip xs)))) else .bad
  | _, _ => .bad
def dgetU (u w : U) (S : Store) : Res U := match tabAt S u, w with
  | some (_, t), .d y => (match (keyD y).bind (getK t) with | some z => .ok (.d z) S | none => .bad)
  | _, _ => .bad
def dget2U (u w z : U) (S : Store) : Res U := match tabAt S u, w with
  | some (_, t), .d y => (match keyD y with | some k => .ok (match getK t k with | some x => .d x | none => z) S | none => .bad)
  | _, _ => .bad
def newlcU (u : U) (S : Store) : Res U := match rd S u with
  | some (.list xs) => .ok (.loc S.length) (S ++ [.lst xs])
  | some (.tuple xs) => .ok (.loc S.length) (S ++ [.lst xs])
  | _ => .bad
def dputU (u w z : U) (S : Store) : Res U := match tabAt S u, w, asD z with
  | some (n, t), .d y, some x => (match keyD y with | some k => if t.length < sizeLine then .ok (.d .none) (S.set n (.dct (putD t k x))) else .bad | none => .bad)
  | _, _, _ => .bad
/-! objects -/
/-- u is an instance of C: where, and its fields -/
def insAt (C : Str) (S : Store) : U → Option (Nat × List (Str × U))
  | .loc n => (match S[n]? with | some (.ins c fs) => if c = C then some (n, fs) else none | _ => none)
  | _ => none
def lstAt (S : Store) : U → Option (Nat × List PyData)
  | .loc n => (match S[n]? with | some (.lst ds) => some (n, ds) | _ => none)
  | _ => none
def putU (f : Str) (v : U) : List (Str × U) → List (Str × U)
  | [] => [(f, v)]
  | (g, x) :: r => if g = f then (g, v) :: r else (g, x) :: putU f v r
def callS (fs : FS) (us : List U) (S : Store) : Res U := if us.length == fs.ps.length then fs.m us S else .bad
def methAt (C m : Str) (S : Store) (u : U) : Bool := match insAt C S u with
  | some (_, fs) => (fs.lookup m).isNone
  | none => false
def makeU (C : Str) (fs : FS) (us : List U) (S : Store) : Res U := match callS fs (.loc S.length :: us) (S ++ [.ins C []]) with
  | .ok (.d .none) S2 => .ok (.loc S.length) S2
  | .exc c S2 => .exc c S2
  | _ => .bad
def attrU (C : Str) (u : U) (f : Str) (S : Store) : Res U := match insAt C S u with
  | some (_, fs) => (match fs.lookup f with | some w => .ok w S | none => .bad)
  | none => .bad
def appEU (u w : U) (S : Store) : Res U := match lstAt S u, asD w with
  | some (n, ds), some x => if ds.length < sizeLine then .ok (.d .none) (S.set n (.lst (ds ++ [x]))) else .bad
  | _, _ => .bad
def popEU (u : U) (S : Store) : Res U := match lstAt S u with
  | some (n, ds) => (match ds[ds.length - 1]? with
    | some x => .ok (.d x) (S.set n (.lst ds.dropLast))
    | none => .bad)
  | none => .bad
def lenOU (C : Str) (fs : FS) (u : U) (S : Store) : Res U := if (insAt C S u).isSome then (match callS fs [u] S with
    | .ok (.d (.int k)) S2 => if 0 ≤ k ∧ k < 1000000 then .ok (.d (.int k)) S2 else .bad
    | _ => .bad) else .bad
def eqOU (ng : Bool) (C : Str) (fs : FS) (u w : U) (S : Store) : Res U := if (insAt C S u).isSome && ((insAt C S w).isSome || (rd1 S w).isSome) then (match callS fs [u, w] S with
    | .ok (.d (.bool k)) S2 => .ok (.d (.bool (if ng then !k else k))) S2
    | _ => .bad) else .bad
def iswU (C : Str) (u : U) (S : Store) : Res U := if (insAt C S u).isSome then .ok (.d (.bool true)) S else if (rd1 S u).isSome then .ok (.d (.bool false)) S else .bad
def setfU (C : Str) (u : U) (f : Str) (z : U) (S : Store) : Res U := match insAt C S u with
  | some (n, fs) => if fs.length < 1000 then .ok (.d .none) (S.set n (.ins C (putU f z fs))) else .bad
  | none => .bad
def setIs : List Nat → List U → Rho → Option Rho
  | [], [], r => some r
  | i :: is, u :: us, r => setIs is us (r.set i (some u))
  | _, _, _ => none
def setT : Tg → U → Rho → Option Rho
  | .name i, u, r => some (r.set i (some u))
  | .tup is, .d (.tuple xs), r => setIs is (xs.map .d) r
  | .tup is, .tl us, r => setIs is us r
  | _, _, _ => none
def wipeR (r : Rho) : List Nat → Rho
  | [] => r
  | v :: vs => (wipeR r vs).set v none
/-- the items of a thing that is walked -/
def itemsU (S : Store) : U → Option (List U)
  | .tl us => some us
  | .ll us => some us
  | .d (.list xs) => some (xs.map .d)
  | .d (.tuple xs) => some (xs.map .d)
  | .loc n => (match S[n]? with | some (.lst ds) => some (ds.map .d) | _ => none)
  | _ => none
/-- which cell must stay as it is meanwhile -/
def guardU (S : Store) : U → Option (Nat × Cell)
  | .loc n => (match S[n]? with | some c => some (n, c) | none => none)
  | _ => none
noncomputable def keeps (g : Option (Nat × Cell)) (S : Store) : Bool := match g with
  | none => true
  | some (n, c) => @decide (S[n]? = some c) (Classical.propDecidable _)
@[simp] theorem keeps_none (S : Store) : keeps none S = true := rfl
theorem keeps_some {n : Nat} {c : Cell} {S : Store} (h : S[n]? = some c) : keeps (some (n, c)) S = true := by simp [keeps, h]
def zip3U : List PyData → List PyData → List PyData → List U
  | x :: xs, y :: ys, z :: zs => .tl [.d x, .d y, .d z] :: zip3U xs ys zs
  | _, _, _ => []
def enumFrom : Nat → List PyData → List U
  | _, [] => []
  | k, x :: r => .d (.tuple [.int k, x]) :: enumFrom (k + 1) r
def signsU (z : Str) : List U := z.cps.toList.map fun c => U.d (.str ⟨#[c]⟩)
/-- items and what is to be kept -/
abbrev Walk := List U × Option (Nat × Cell)
noncomputable def lcLoop (g : Option (Nat × Cell)) (f : U → Store → Res (List PyData)) : List U → Store → Res (List PyData)
  | [], S => .ok [] S
  | u :: us, S => (f u S).bind fun r S1 => if keeps g S1 then (lcLoop g f us S1).bind fun ys S2 => .ok (r ++ ys) S2 else .bad
def Tg.slots : Tg → List Nat
  | .name i => [i]
  | .tup is => is
def fitsL (xs : List PyData) (S : Store) : Res U := if xs.length ≤ sizeLine then .ok (.d (.list xs)) S else .bad
noncomputable def forLoop (g : Option (Nat × Cell)) (f : U → Rho → Store → Out) : List U → Rho → Store → Out
  | [], r, S => .next r S
  | u :: us, r, S => match f u r S with
    | .next r' S' => if keeps g S' then forLoop g f us r' S' else .bad
    | .cont r' S' => if keeps g S' then forLoop g f us r' S' else .bad
    | .brk r' S' => .next r' S'
    | o => o
def whileLoop (c : Rho → Store → Res U) (f : Rho → Store → Out) : Nat → Rho → Store → Out
  | 0, _, _ => .bad
  | n + 1, r, S => match c r S with
    | .ok (.d (.bool true)) S1 => (match f r S1 with
      | .next r' S' => whileLoop c f n r' S'
      | .cont r' S' => whileLoop c f n r' S'
      | .brk r' S' => .next r' S'
      | o => o)
    | .ok (.d (.bool false)) S1 => .next r S1
    | .exc e S1 => .exc e r S1
    | _ => .bad

mutual
noncomputable def evalE : P → Rho → Store → Res U
  | .var i, r, S => (match r[i]? with | some (some u) => .ok u S | _ => .bad)
  | .frz i, r, S => (match cellAt r S i with | some (n, ds) => .ok (.d (.list ds)) (S.set n .dead) | none => .bad)
  | .cst x, _, S => .ok (.d x) S
  | .glb _ x, _, S => .ok (.d x) S
  | .fnv x, _, S => .ok (.fn x) S
  | .bin o a b, r, S => (evalE a r S).bind fun u S1 => (evalE b r S1).bind fun w S2 => op2 o.sem u w S2
  | .neg a, r, S => (evalE a r S).bind negU
  | .nt a, r, S => (evalE a r S).bind fun u S1 => (lift (asB u) S1).bind fun b S2 => .ok (.d (.bool !b)) S2
  | .cmp o a b, r, S => (evalE a r S).bind fun u S1 => (evalE b r S1).bind fun w S2 => cmp2 o.sem u w S2
  | .chn o o' a b c, r, S => (evalE a r S).bind fun u S1 => (evalE b r S1).bind fun w S2 => (cmp2 o.sem u w S2).bind fun k S3 =>
      (lift (asB k) S3).bind fun k S3 => if k then (evalE c r S3).bind fun z S4 => cmp2 o'.sem w z S4 else .ok (.d (.bool false)) S3
  | .bop an ps, r, S => evalB an ps r S
  | .ife c a b, r, S => (evalE c r S).bind fun u S1 => (lift (asB u) S1).bind fun k S2 => if k then evalE a r S2 else evalE b r S2
  | .call fe ps, r, S => (evalEs ps r S).bind fun us S1 => callU fe us S1
  | .call0 fe, _, S => (callU fe [] S).calm
  | .blt b ps, r, S => (evalEs ps r S).bind fun us S1 => bltU b us S1
  | .lset a, r, S => (evalE a r S).bind fun u S1 => bltU .lenSet [u] S1
  | .lrg1 a, r, S => (evalE a r S).bind fun u S1 => bltU .lrg1 [u] S1
  | .lrg2 a b, r, S => (evalE a r S).bind fun u S1 => (evalE b r S1).bind fun w S2 => bltU .lrg2 [u, w] S2
  | .isi a t, r, S => (evalE a r S).bind fun u S1 => isiU t u S1
  | .idx a b, r, S => (evalE a r S).bind fun u S1 => (evalE b r S1).bind fun w S2 => idxU u w S2
  | .slc a lo hi, r, S => (evalE a r S).bind fun u S1 => (evalO lo r S1).bind fun l S2 => (evalO hi r S2).bind fun h S3 => slcU u l h S3
  | .tup ps, r, S => (evalEs ps r S).bind tupU
  | .lst ps, r, S => (evalEs ps r S).bind lstU
  | .newl ps, r, S => (evalEs ps r S).bind newlU
  | .mth m a ps, r, S => (evalE a r S).bind fun u S1 => if recvU m S1 u then (evalEs ps r S1).bind fun us S2 => mthU m u us S2 else .bad
  | .app i a, r, S => if (cellAt r S i).isSome then (evalE a r S).bind fun u S1 => appU r i u S1 else .bad
  | .ext i a, r, S => if (cellAt r S i).isSome then (evalE a r S).bind fun u S1 => extU r i u S1 else .bad
  | .popA i a, r, S => if (cellAt r S i).isSome then (evalE a r S).bind fun u S1 => popAU r i u S1 else .bad
  | .pop i, r, S => popU r i S
  | .newd ks ps, r, S => (evalEs ps r (S ++ [.dct []])).bind fun us S1 => newdU S.length ks us S1
  | .dget a b, r, S => (evalE a r S).bind fun u S1 => (evalE b r S1).bind fun w S2 => dgetU u w S2
  | .lc own g it c e, r, S => (evalI it r S).bind fun w S1 => (lcLoop w.2 (fun u S2 => ((lift (setT g u (wipeR r (own.map (·.2)))) S2).bind fun r2 S2 =>
      (evalC c r2 S2).bind fun k S3 => if k then (evalE e r2 S3).bind fun z S4 => (lift (asD z) S4).bind fun x S5 => .ok [x] S5 else .ok [] S3).calm) w.1 S1).bind fitsL
  | .lc2 own g it g1 it1 c e, r, S => (evalI it r S).bind fun w S1 => (lcLoop w.2 (fun u S2 => ((lift (setT g u (wipeR r (own.map (·.2)))) S2).bind fun r2 S2 =>
      (evalI it1 r2 S2).bind fun w1 S3 => lcLoop w1.2 (fun u1 S4 => ((lift (setT g1 u1 (wipeR r2 g1.slots)) S4).bind fun r3 S4 =>
        (evalC c r3 S4).bind fun k S5 => if k then (evalE e r3 S5).bind fun z S6 => (lift (asD z) S6).bind fun x S7 => .ok [x] S7 else .ok [] S5).calm) w1.1 S3).calm) w.1 S1).bind fitsL
  | .rev a, r, S => (evalE a r S).bind fun u S1 => revU u S1
  | .newlc a, r, S => (evalE a r S).bind fun u S1 => newlcU u S1
  | .newd0, _, S => .ok (.loc S.length) (S ++ [.dct []])
  | .dget2 a k d, r, S => (evalE a r S).bind fun u S1 => if (tabAt S1 u).isSome then (evalE k r S1).bind fun w S2 => (evalE d r S2).bind fun z S3 => dget2U u w z S3 else .bad
  | .callx fes w ps, r, S => (evalE w r S).bind fun u S1 => (lift (pickF fes u) S1).bind fun fe S2 => (evalEs ps r S2).bind fun us S3 => callU fe us S3
  | .isx i cs C, r, S => isxU r i cs C S
  | .calls fs ps, r, S => (evalEs ps r S).bind fun us S1 => callS fs us S1
  | .mcall C fs a ps, r, S => (evalE a r S).bind fun u S1 => if methAt C fs.name S1 u then (evalEs ps r S1).bind fun us S2 => callS fs (u :: us) S2 else .bad
  | .make C fs ps, r, S => (evalEs ps r S).bind fun us S1 => makeU C fs us S1
  | .attr C a f, r, S => (evalE a r S).bind fun u S1 => attrU C u f S1
  | .appE a b, r, S => (evalE a r S).bind fun u S1 => if (lstAt S1 u).isSome then (evalE b r S1).bind fun w S2 => appEU u w S2 else .bad
  | .popE a, r, S => (evalE a r S).bind fun u S1 => popEU u S1
  | .lenO C fs a, r, S => (evalE a r S).bind fun u S1 => lenOU C fs u S1
  | .eqO ng C fs a b, r, S => (evalE a r S).bind fun u S1 => (evalE b r S1).bind fun w S2 => eqOU ng C fs u w S2
  | .isw a C, r, S => (evalE a r S).bind fun u S1 => iswU C u S1
  | .callN fe ps, r, S => (evalEs ps r S).bind fun us S1 => callNU fe us S1
  | .sortA f i a, r, S => (evalE a r S).bind fun u S1 => sortAU f r i u S1
  | .callC fes i, r, S => callCU fes r i S
  | .callH fe i, r, S => callHU fe r i S
  | .isv i cs, r, S => isvU r i cs S
  | .allM fe f n ls ps nm, r, S => (evalEs ps r S).bind fun us S1 => if us.length = n then (match asDs us with | some ds => allU fe f (fun j => ds[j]?) ls nm S1 | none => .bad) else .bad
  | .allL fe f l nm, r, S => allU fe f (slotD r) [l] nm S
  | .lstL ps, r, S => (evalEs ps r S).bind fun us S1 => .ok (.ll us) S1
  | .insA i a b, r, S => if (cellAt r S i).isSome then (evalE a r S).bind fun u S1 => (evalE b r S1).bind fun w S2 => insU r i u w S2 else .bad
noncomputable def evalEs : Ps → Rho → Store → Res (List U)
  | .nil, _, S => .ok [] S
  | .cons a r', r, S => (evalE a r S).bind fun u S1 => (evalEs r' r S1).bind fun us S2 => .ok (u :: us) S2
noncomputable def evalB : Bool → Ps → Rho → Store → Res U
  | _, .nil, _, _ => .bad
  | an, .cons a .nil, r, S => (evalE a r S).bind fun u S1 => (lift (asB u) S1).bind fun k S2 => .ok (.d (.bool k)) S2
  | an, .cons a r', r, S => (evalE a r S).bind fun u S1 => (lift (asB u) S1).bind fun k S2 => if k == an then evalB an r' r S2 else .ok (.d (.bool k)) S2
noncomputable def evalO : O → Rho → Store → Res (Option Int)
  | .no, _, S => .ok none S
  | .yes a, r, S => (evalE a r S).bind fun u S1 => (match u with | .d (.int i) => .ok (some i) S1 | _ => .bad)
/-- a comprehension's test -/
noncomputable def evalC : O → Rho → Store → Res Bool
  | .no, _, S => .ok true S
  | .yes a, r, S => (evalE a r S).bind fun u S1 => lift (asB u) S1
noncomputable def evalI : It → Rho → Store → Res Walk
  | .ex a, r, S => (evalE a r S).bind fun u S1 => (lift (itemsU S1 u) S1).bind fun us S2 => .ok (us, guardU S2 u) S2
  | .rg1 a, r, S => (evalE a r S).bind fun u S1 => (match u with | .d (.int n) => if n ≤ 100000 ∧ -100000 ≤ n then .ok ((rangeD 0 n).map .d, none) S1 else .bad | _ => .bad)
  | .rg2 a b, r, S => (evalE a r S).bind fun u S1 => (evalE b r S1).bind fun w S2 => (match u, w with
      | .d (.int m), .d (.int n) => if n ≤ 100000 ∧ -100000 ≤ m ∧ m ≤ 100000 ∧ -100000 ≤ n ∧ n - m ≤ 100000 then .ok ((rangeD m n).map .d, none) S2 else .bad
      | _, _ => .bad)
  | .enm a, r, S => (evalE a r S).bind fun u S1 => (match u with | .d (.list xs) => .ok (enumFrom 0 xs, none) S1 | _ => .bad)
  | .exs a, r, S => (evalE a r S).bind fun u S1 => (match u with | .d (.str z) => .ok (signsU z, none) S1 | _ => .bad)
  | .zp3 ps, r, S => (evalEs ps r S).bind fun us S1 => (match us with | [.d (.list xs), .d (.list ys), .d (.list zs)] => if xs.length = ys.length ∧ ys.length = zs.length then .ok (zip3U xs ys zs, none) S1 else .bad | _ => .bad)
end

/-- a statement that begins with an expression -/
def Res.out {α : Type} (r : Rho) (f : α → Store → Out) : Res α → Out
  | .ok a S => f a S
  | .exc c S => .exc c r S
  | .bad => .bad
@[simp] theorem Res.out_ok {α : Type} (r : Rho) (f : α → Store → Out) (a : α) (S : Store) : (Res.ok a S).out r f = f a S := rfl
@[simp] theorem Res.out_exc {α : Type} (r : Rho) (f : α → Store → Out) (c : Str) (S : Store) : (Res.exc c S : Res α).out r f = .exc c r S := rfl
@[simp] theorem Res.out_bad {α : Type} (r : Rho) (f : α → Store → Out) : (Res.bad : Res α).out r f = .bad := rfl
def nextO (S : Store) : Option Rho → Out
  | some r => .next r S
  | none => .bad
@[simp] theorem nextO_some (S : Store) (r : Rho) : nextO S (some r) = .next r S := rfl
def Out.seq (f : Rho → Store → Out) : Out → Out
  | .next r S => f r S
  | o => o
@[simp] theorem Out.seq_next (f : Rho → Store → Out) (r : Rho) (S : Store) : (Out.next r S).seq f = f r S := rfl
@[simp] theorem Out.seq_ret (f : Rho → Store → Out) (u : U) (S : Store) : (Out.ret u S).seq f = .ret u S := rfl
@[simp] theorem Out.seq_brk (f : Rho → Store → Out) (r : Rho) (S : Store) : (Out.brk r S).seq f = .brk r S := rfl
@[simp] theorem Out.seq_cont (f : Rho → Store → Out) (r : Rho) (S : Store) : (Out.cont r S).seq f = .cont r S := rfl
@[simp] theorem Out.seq_exc (f : Rho → Store → Out) (c : Str) (r : Rho) (S : Store) : (Out.exc c r S).seq f = .exc c r S := rfl
@[simp] theorem Out.seq_bad (f : Rho → Store → Out) : Out.bad.seq f = .bad := rfl
mutual
noncomputable def evalS : Sx → Rho → Store → Out
  | .asg g a, r, S => (evalE a r S).out r fun u S1 => nextO S1 (setT g u r)
  | .par i j a b, r, S => ((evalE a r S).bind fun u S1 => (evalE b r S1).bind fun w S2 => .ok (u, w) S2).out r fun p S1 => .next ((r.set i (some p.1)).set j (some p.2)) S1
  | .par3 i j k a b c, r, S => ((evalE a r S).bind fun u S1 => (evalE b r S1).bind fun w S2 => (evalE c r S2).bind fun z S3 => .ok (u, w, z) S3).out r fun p S1 => .next (((r.set i (some p.1)).set j (some p.2.1)).set k (some p.2.2)) S1
  | .expr a, r, S => (evalE a r S).out r fun _ S1 => .next r S1
  | .ite c a b, r, S => ((evalE c r S).bind fun u S1 => lift (asB u) S1).out r fun k S1 => if k then evalSs a r S1 else evalSs b r S1
  | .ret a, r, S => (evalE a r S).out r fun u S1 => .ret u S1
  | .retN, _, S => .ret (.d .none) S
  | .forr g it b, r, S => (evalI it r S).out r fun w S1 => forLoop w.2 (fun u r S => match setT g u r with | some r' => evalSs b r' S | none => .bad) w.1 r S1
  | .whil n c b, r, S => whileLoop (fun r S => evalE c r S) (fun r S => evalSs b r S) n r S
  | .rais c, r, S => .exc c r S
  | .pass, r, S => .next r S
  | .dput a k v, r, S => ((evalE v r S).bind fun z S1 => (evalE a r S1).bind fun u S2 => (evalE k r S2).bind fun w S3 => dputU u w z S3).out r fun _ S4 => .next r S4
  | .tryx cs _ i body hand, r, S => (match evalSs body r S with
      | .exc c r1 S1 => if c ∈ cs then handOut (evalSs hand (r1.set i (some (.exn c))) S1) else .bad
      | o => o)
  | .setf C a f v, r, S => ((evalE v r S).bind fun z S1 => (evalE a r S1).bind fun u S2 => setfU C u f z S2).out r fun _ S3 => .next r S3
  | .setf2 C a f b g x y, r, S => ((evalE x r S).bind fun z S1 => (evalE y r S1).bind fun w S2 => (evalE a r S2).bind fun u S3 => (setfU C u f z S3).bind fun _ S4 => (evalE b r S4).bind fun u2 S5 => setfU C u2 g w S5).out r fun _ S6 => .next r S6
  | .lamI fe f i ls nm, r, S => ((allU fe f (slotD (r.set i none)) ls nm S).bind fun u S1 => lift (asB u) S1).out (r.set i none) fun b S1 => if b then .next (r.set i none) S1 else .ret (.d (.bool false)) S1
  | .lamR fe f i ls nm a, r, S => ((allU fe f (slotD (r.set i none)) ls nm S).bind fun u S1 => lift (asB u) S1).out (r.set i none) fun b S1 => if b then (evalE a (r.set i none) S1).out (r.set i none) fun u S2 => .ret u S2 else .ret (.d (.bool false)) S1
noncomputable def evalSs : Ss → Rho → Store → Out
  | .nil, r, S => .next r S
  | .cons a b, r, S => (evalS a r S).seq fun r' S' => evalSs b r' S'
end

/-- a def's body at its arguments -/
noncomputable def runDef (n : Nat) (body : Ss) (us : List U) : R := match evalSs body (us.map some ++ List.replicate (n - us.length) none) [] with
  | .ret (.d x) _ => .ok x
  | .next _ _ => .ok .none
  | .exc c _ _ => .exc c
  | _ => .bad
/-- .. that gives a new list -/
noncomputable def runDefN (n : Nat) (body : Ss) (us : List U) : R := match evalSs body (us.map some ++ List.replicate (n - us.length) none) [] with
  | .ret (.loc m) S => (match S[m]? with | some (.lst xs) => .ok (.list xs) | _ => .bad)
  | .exc c _ _ => .exc c
  | _ => .bad
/-- .. at a store of its own -/
noncomputable def runDefT (S0 : Store) (n : Nat) (body : Ss) (us : List U) : R := match evalSs body (us.map some ++ List.replicate (n - us.length) none) S0 with
  | .ret (.d x) _ => .ok x
  | .next _ _ => .ok .none
  | .exc c _ _ => .exc c
  | _ => .bad
/-- a def's body at its arguments, on the caller's store -/
noncomputable def runDefS (n : Nat) (body : Ss) (us : List U) (S : Store) : Res U := match evalSs body (us.map some ++ List.replicate (n - us.length) none) S with
  | .ret u S' => .ok u S'
  | .next _ S' => .ok (.d .none) S'
  | .exc c _ S' => .exc c S'
  | _ => .bad
end PD
/-! Part B: data and the machine's values; what is carried from one step to the next. -/
namespace PD
open PySem PySem.Spec PyProof.Rows L2

/-- the object at a is a tuple without a dict of its own -/
def NoD (K : PySem.W.Frag) (H : Hp) (a : Addr) : Prop := (∃ o u, H a = some (.frz o u) ∧ o.cls = .type "tuple" ∧ o.dict = none) ∨ ∃ o, K.lookup a = some o ∧ o.cls = .type "tuple" ∧ o.dict = none
structure ST (K : PySem.W.Frag) (H : Hp) (ds : List PyData) (a : Addr) (xs : List V) : Prop where
  sq : SqT K H a xs
  nd : strT ds = true → NoD K H a
mutual
def DP (K : PySem.W.Frag) (H : Hp) : PyData → V → Prop
  | .none, v => v = .non
  | .bool b, v => v = .bl b
  | .int i, v => v = .int i
  | .str x, v => v = .str x
  | .list ds, v => ∃ a xs, v = .ref a ∧ H a = some (.lst xs) ∧ DPs K H ds xs
  | .tuple ds, v => ∃ a xs, v = .ref a ∧ ST K H ds a xs ∧ DPs K H ds xs
  | .dict _, _ => False
def DPs (K : PySem.W.Frag) (H : Hp) : List PyData → List V → Prop
  | [], vs => vs = []
  | d :: ds, vs => ∃ v r, vs = v :: r ∧ DP K H d v ∧ DPs K H ds r
end

theorem sqT_same {K : PySem.W.Frag} {H H' : Hp} {a : Addr} {xs : List V} (e : Same H H') (h : SqT K H a xs) : SqT K H' a xs := by
  rcases h with (h | ⟨o, h⟩) | h
  · exact .inl (.inl (e _ _ h))
  · exact .inl (.inr ⟨o, e _ _ h⟩)
  · exact .inr h
theorem noD_same {K : PySem.W.Frag} {H H' : Hp} {a : Addr} (e : Same H H') (h : NoD K H a) : NoD K H' a := by
  rcases h with ⟨o, u, h, c⟩ | h
  · exact .inl ⟨o, u, e _ _ h, c⟩
  · exact .inr h
theorem st_same {K : PySem.W.Frag} {H H' : Hp} {ds : List PyData} {a : Addr} {xs : List V} (e : Same H H') (h : ST K H ds a xs) : ST K H' ds a xs := ⟨sqT_same e h.sq, fun z => noD_same e (h.nd z)⟩
mutual
theorem DP.mono {K : PySem.W.Frag} {H H' : Hp} (e : Same H H') : ∀ (d : PyData) (v : V), DP K H d v → DP K H' d v
  | .none, _, h => h
  | .bool _, _, h => h
  | .int _, _, h => h
  | .str _, _, h => h
  | .list ds, _, ⟨a, xs, h1, h2, h3⟩ => ⟨a, xs, h1, e _ _ h2, DPs.mono e ds xs h3⟩
  | .tuple ds, _, ⟨a, xs, h1, h2, h3⟩ => ⟨a, xs, h1, st_same e h2, DPs.mono e ds xs h3⟩
  | .dict _, _, h => h.elim
theorem DPs.mono {K : PySem.W.Frag} {H H' : Hp} (e : Same H H') : ∀ (ds : List PyData) (vs : List V), DPs K H ds vs → DPs K H' ds vs
  | [], _, h => h
  | d :: ds, _, ⟨v, r, h1, h2, h3⟩ => ⟨v, r, h1, DP.mono e d v h2, DPs.mono e ds r h3⟩
end
mutual
theorem DP.dp {K : PySem.W.Frag} {H : Hp} : ∀ (d : PyData) (v : V), DP K H d v → Dp K H v d
  | .none, _, h => by cases h; exact .non
  | .bool _, _, h => by cases h; exact .bl _
  | .int _, _, h => by cases h; exact .int _
  | .str _, _, h => by cases h; exact .str _
  | .list ds, _, ⟨a, xs, h1, h2, h3⟩ => by cases h1; exact .lst (SqL.of h2) (DPs.dps ds xs h3)
  | .tuple ds, _, ⟨a, xs, h1, h2, h3⟩ => by cases h1; exact .tup h2.sq (DPs.dps ds xs h3)
  | .dict _, _, h => h.elim
theorem DPs.dps {K : PySem.W.Frag} {H : Hp} : ∀ (ds : List PyData) (vs : List V), DPs K H ds vs → DpAll K H vs ds
  | [], _, h => by cases h; exact .nil
  | d :: ds, _, ⟨v, r, h1, h2, h3⟩ => by cases h1; exact .cons (DP.dp d v h2) (DPs.dps ds r h3)
end
mutual
theorem DP.plain {K : PySem.W.Frag} {H : Hp} : ∀ (d : PyData) (v : V), DP K H d v → d.plain = true
  | .none, _, _ => rfl
  | .bool _, _, _ => rfl
  | .int _, _, _ => rfl
  | .str _, _, _ => rfl
  | .list ds, _, ⟨_, xs, _, _, h3⟩ => DPs.plain ds xs h3
  | .tuple ds, _, ⟨_, xs, _, _, h3⟩ => DPs.plain ds xs h3
  | .dict _, _, h => h.elim
theorem DPs.plain {K : PySem.W.Frag} {H : Hp} : ∀ (ds : List PyData) (vs : List V), DPs K H ds vs → PyData.plainAll ds = true
  | [], _, _ => rfl
  | d :: ds, _, ⟨v, r, _, h2, h3⟩ => by
    show (d.plain && PyData.plainAll ds) = true
    rw [DP.plain d v h2, DPs.plain ds r h3]; rfl
end
section
variable {K : PySem.W.Frag} {H : Hp}
theorem DPs.length : ∀ {ds : List PyData} {vs : List V}, DPs K H ds vs → ds.length = vs.length
  | [], _, h => by cases h; rfl
  | _ :: _, _, ⟨_, _, h1, _, h3⟩ => by cases h1; simp [DPs.length h3]
theorem DPs.get : ∀ {ds : List PyData} {vs : List V} {i : Nat} {d : PyData}, DPs K H ds vs → ds[i]? = some d → ∃ v, vs[i]? = some v ∧ DP K H d v
  | [], _, _, _, _, e => by simp at e
  | _ :: _, _, 0, _, ⟨v, _, h1, h2, _⟩, e => by cases h1; simp at e; subst e; exact ⟨v, rfl, h2⟩
  | _ :: _, _, i + 1, d, ⟨_, _, h1, _, h3⟩, e => by
    cases h1
    obtain ⟨v, q1, q2⟩ := DPs.get (i := i) (d := d) h3 (by simpa using e)
    exact ⟨v, by simpa using q1, q2⟩
theorem DPs.get' : ∀ {ds : List PyData} {vs : List V} {i : Nat} {v : V}, DPs K H ds vs → vs[i]? = some v → ∃ d, ds[i]? = some d ∧ DP K H d v := fun {ds vs i v} h e => by
  have hl := h.length
  obtain ⟨hi, _⟩ := List.getElem?_eq_some_iff.mp e
  have hi' : i < ds.length := by omega
  obtain ⟨w, q1, q2⟩ := h.get (List.getElem?_eq_getElem hi')
  rw [e] at q1; cases q1
  exact ⟨_, List.getElem?_eq_getElem hi', q2⟩
theorem DPs.append : ∀ {ds es : List PyData} {vs ws : List V}, DPs K H ds vs → DPs K H es ws → DPs K H (ds ++ es) (vs ++ ws)
  | [], _, _, _, h, k => by cases h; exact k
  | _ :: _, _, _, _, ⟨v, r, h1, h2, h3⟩, k => by cases h1; exact ⟨v, _, rfl, h2, DPs.append h3 k⟩
theorem DPs.one {d : PyData} {v : V} (h : DP K H d v) : DPs K H [d] [v] := ⟨v, [], rfl, h, rfl⟩
theorem DPs.drop : ∀ {ds : List PyData} {vs : List V} (n : Nat), DPs K H ds vs → DPs K H (ds.drop n) (vs.drop n)
  | _, _, 0, h => by simpa using h
  | [], _, n + 1, h => by cases h; exact rfl
  | _ :: _, _, n + 1, ⟨_, _, h1, _, h3⟩ => by cases h1; simpa using DPs.drop n h3
theorem DPs.take : ∀ {ds : List PyData} {vs : List V} (n : Nat), DPs K H ds vs → DPs K H (ds.take n) (vs.take n)
  | _, _, 0, _ => rfl
  | [], _, n + 1, h => by cases h; exact rfl
  | _ :: _, _, n + 1, ⟨v, _, h1, h2, h3⟩ => by cases h1; exact ⟨v, _, rfl, h2, DPs.take n h3⟩
theorem DPs.erase : ∀ {ds : List PyData} {vs : List V} (n : Nat), DPs K H ds vs → DPs K H (ds.eraseIdx n) (vs.eraseIdx n)
  | [], _, _, h => by cases h; exact rfl
  | _ :: _, _, 0, ⟨_, _, h1, _, h3⟩ => by cases h1; exact h3
  | _ :: _, _, n + 1, ⟨v, _, h1, h2, h3⟩ => by cases h1; exact ⟨v, _, rfl, h2, DPs.erase n h3⟩
theorem DPs.dropLast {ds : List PyData} {vs : List V} (h : DPs K H ds vs) : DPs K H ds.dropLast vs.dropLast := by
  rw [List.dropLast_eq_take, List.dropLast_eq_take, h.length]; exact h.take _
theorem DPs.reverse : ∀ {ds : List PyData} {vs : List V}, DPs K H ds vs → DPs K H ds.reverse vs.reverse
  | [], _, h => by cases h; exact rfl
  | _ :: _, _, ⟨_, _, h1, h2, h3⟩ => by
    cases h1
    rw [List.reverse_cons, List.reverse_cons]
    exact (DPs.reverse h3).append (DPs.one h2)
theorem DPs.rep {ds : List PyData} {vs : List V} (h : DPs K H ds vs) : ∀ k : Nat, DPs K H (List.replicate k ds).flatten (List.replicate k vs).flatten
  | 0 => rfl
  | k + 1 => by simpa [List.replicate_succ] using h.append (h.rep k)
theorem DPs.ints : ∀ (ns : List Int), DPs K H (ns.map .int) (ns.map V.int)
  | [] => rfl
  | _ :: r => ⟨_, _, rfl, rfl, DPs.ints r⟩
theorem DPs.strs : ∀ (ns : List Str), DPs K H (ns.map .str) (ns.map V.str)
  | [] => rfl
  | _ :: r => ⟨_, _, rfl, rfl, DPs.strs r⟩
theorem DPs.of_ints : ∀ {xs : List PyData} {vs : List V} {ns : List Int}, DPs K H xs vs → ints? xs = some ns → vs = ns.map V.int ∧ xs = ns.map .int
  | [], _, _, h, e => by cases h; cases e; exact ⟨rfl, rfl⟩
  | .int i :: r, _, ns, ⟨_, _, h1, h2, h3⟩, e => by
    cases h1; cases h2
    cases q : ints? r with
    | none => simp [ints?, q] at e
    | some ms =>
      simp [ints?, q] at e
      subst e
      obtain ⟨a, b⟩ := DPs.of_ints h3 q
      exact ⟨by rw [a]; rfl, by rw [b]; rfl⟩
  | .none :: _, _, _, _, e => nomatch e
  | .bool _ :: _, _, _, _, e => nomatch e
  | .str _ :: _, _, _, _, e => nomatch e
  | .list _ :: _, _, _, _, e => nomatch e
  | .tuple _ :: _, _, _, _, e => nomatch e
  | .dict _ :: _, _, _, _, e => nomatch e
theorem DPs.of_strs : ∀ {xs : List PyData} {vs : List V} {ns : List Str}, DPs K H xs vs → strs? xs = some ns → vs = ns.map V.str ∧ xs = ns.map .str
  | [], _, _, h, e => by cases h; cases e; exact ⟨rfl, rfl⟩
  | .str i :: r, _, ns, ⟨_, _, h1, h2, h3⟩, e => by
    cases h1; cases h2
    cases q : strs? r with
    | none => simp [strs?, q] at e
    | some ms =>
      simp [strs?, q] at e
      subst e
      obtain ⟨a, b⟩ := DPs.of_strs h3 q
      exact ⟨by rw [a]; rfl, by rw [b]; rfl⟩
  | .none :: _, _, _, _, e => nomatch e
  | .bool _ :: _, _, _, _, e => nomatch e
  | .int _ :: _, _, _, _, e => nomatch e
  | .list _ :: _, _, _, _, e => nomatch e
  | .tuple _ :: _, _, _, _, e => nomatch e
  | .dict _ :: _, _, _, _, e => nomatch e
theorem DPs.of_bools : ∀ {xs : List PyData} {vs : List V} {ns : List Bool}, DPs K H xs vs → bools? xs = some ns → vs = ns.map V.bl ∧ xs = ns.map .bool
  | [], _, _, h, e => by cases h; cases e; exact ⟨rfl, rfl⟩
  | .bool i :: r, _, ns, ⟨_, _, h1, h2, h3⟩, e => by
    cases h1; cases h2
    cases q : bools? r with
    | none => simp [bools?, q] at e
    | some ms =>
      simp [bools?, q] at e
      subst e
      obtain ⟨a, b⟩ := DPs.of_bools h3 q
      exact ⟨by rw [a]; rfl, by rw [b]; rfl⟩
  | .none :: _, _, _, _, e => nomatch e
  | .str _ :: _, _, _, _, e => nomatch e
  | .int _ :: _, _, _, _, e => nomatch e
  | .list _ :: _, _, _, _, e => nomatch e
  | .tuple _ :: _, _, _, _, e => nomatch e
  | .dict _ :: _, _, _, _, e => nomatch e
end

/-! ### closures -/
abbrev oT : HO := .ext fun _ => True
abbrev par0 : Arguments := ⟨[], [], none, [], [], none, []⟩
def cst0 : Expr → Option PyData
  | .Constant .none _ _ => some .none
  | .Constant (.bool b) _ _ => some (.bool b)
  | .Constant (.int i) _ _ => some (.int i)
  | .Constant (.str x) _ _ => some (.str x)
  | .UnaryOp .USub (.Constant (.int i) _ _) _ => some (.int (-i))
  | _ => none
def cst0s : List Expr → Option (List PyData)
  | [] => some []
  | e :: es => (cst0 e).bind fun d => (cst0s es).map (d :: ·)
def cst1 : Expr → Option PyData
  | .Tuple es _ _ => if es.length ≤ 1000 then (cst0s es).map .tuple else none
  | e => cst0 e
/-- no parameter, no name of its own; it calls x -/
structure LamK (scope : Scope) (x : Str) (args : List Expr) : Prop where
  kind : scope.kind = .function
  co : scope.isCoroutine = false
  gen : scope.isGenerator = false
  own : ∀ y ∈ scope.names, y.2 ≠ .local ∧ y.2 ≠ .cell
  hx : scope.names.lookup x = some .globalImplicit
  hd : (x == ("__debug__" : Str)) = false
  ne : args ≠ []
/-- the captured names stand in cells that are never written again -/
structure CloC (scope : Scope) (clo : List (Str × Addr)) (H : Hp) : Prop where
  has : ∀ y, scope.names.lookup y = some .free → ∃ c, clo.lookup y = some c
  inj : ∀ y z c, clo.lookup y = some c → clo.lookup z = some c → y = z
  cell : ∀ y c, clo.lookup y = some c → ∃ o v, H c = some (.frz o oT) ∧ o.data = .cell v
def ArgP (K : PySem.W.Frag) (H : Hp) (scope : Scope) (clo : List (Str × Addr)) (e : Expr) (d : PyData) : Prop :=
  (∃ y p c o u w, e = .Name y p ∧ (y == ("__debug__" : Str)) = false ∧ (y == ("__classdict__" : Str)) = false ∧ scope.names.lookup y = some .free ∧ clo.lookup y = some c ∧ H c = some (.frz o oT) ∧ o.data = .cell (some u) ∧ RelV w u ∧ DP K H d w) ∨ cst1 e = some d
def ArgsP (K : PySem.W.Frag) (H : Hp) (scope : Scope) (clo : List (Str × Addr)) : List Expr → List PyData → Prop
  | [], ds => ds = []
  | e :: es, ds => ∃ d r, ds = d :: r ∧ ArgP K H scope clo e d ∧ ArgsP K H scope clo es r
/-- the object at f: lambda: x(..), what is handed over reads as ds -/
def CloP (K : PySem.W.Frag) (H : Hp) (x : Str) (ds : List PyData) (f : Addr) : Prop :=
  ∃ (q : Str) (p p2 : Pos) (args : List Expr) (scope : Scope) (clo : List (Str × Addr)) (pm ctv : Value) (c : Addr), H f = some (.frz (PySem.W.kla_obj "<lambda>" q par0 (.Call (.Name x p) args [] p2) scope clo pm c ctv) oT) ∧ H c = some (LamX.CodeO c q) ∧ LamK scope x args ∧ CloC scope clo H ∧ ArgsP K H scope clo args ds
section
variable {K : PySem.W.Frag} {H H' : Hp} {scope : Scope} {clo : List (Str × Addr)}
theorem CloC.mono (e : Same H H') (h : CloC scope clo H) : CloC scope clo H' := ⟨h.has, h.inj, fun y c q => by
  obtain ⟨o, v, h1, h2⟩ := h.cell y c q
  exact ⟨o, v, e _ _ h1, h2⟩⟩
theorem ArgP.mono (e : Same H H') {x : Expr} {d : PyData} (h : ArgP K H scope clo x d) : ArgP K H' scope clo x d := by
  rcases h with ⟨y, p, c, o, u, w, h1, h2, h3, h4, h5, h6, h7, h8, h9⟩ | h
  · exact .inl ⟨y, p, c, o, u, w, h1, h2, h3, h4, h5, e _ _ h6, h7, h8, DP.mono e _ _ h9⟩
  · exact .inr h
theorem ArgsP.mono (e : Same H H') : ∀ {es : List Expr} {ds : List PyData}, ArgsP K H scope clo es ds → ArgsP K H' scope clo es ds
  | [], _, h => h
  | _ :: _, _, ⟨d, r, h1, h2, h3⟩ => ⟨d, r, h1, h2.mono e, h3.mono e⟩
theorem CloP.mono (e : Same H H') {x : Str} {ds : List PyData} {f : Addr} (h : CloP K H x ds f) : CloP K H' x ds f := by
  obtain ⟨q, p, p2, args, scope, clo, pm, ctv, c, h1, h2, h3, h4, h5⟩ := h
  exact ⟨q, p, p2, args, scope, clo, pm, ctv, c, e _ _ h1, e _ _ h2, h3, h4.mono e, h5.mono e⟩
end

/-! ### names and cells -/
/-- which caught errors are known -/
abbrev ExK := Addr → Str → Prop
mutual
def UP (K : PySem.W.Frag) (ex : ExK) (H : Hp) (al : List Addr) : U → V → Prop
  | .d x, v => DP K H x v
  | .loc n, v => ∃ a, al[n]? = some a ∧ v = .ref a
  | .tl us, v => ∃ a xs, v = .ref a ∧ SqT K H a xs ∧ UPs K ex H al us xs
  | .ll us, v => ∃ a xs, v = .ref a ∧ H a = some (.lst xs) ∧ UPs K ex H al us xs
  | .scr ns, v => ∃ a, v = .ref a ∧ SqL K H a (ns.map V.int)
  | .fn x, v => v = .ref (He.ga K x)
  | .exn c, v => ∃ a, v = .ref a ∧ ex a c
  | .clo x ds, v => ∃ f, v = .ref f ∧ CloP K H x ds f
def UPs (K : PySem.W.Frag) (ex : ExK) (H : Hp) (al : List Addr) : List U → List V → Prop
  | [], vs => vs = []
  | d :: ds, vs => ∃ v r, vs = v :: r ∧ UP K ex H al d v ∧ UPs K ex H al ds r
end
theorem pre_get {al al' : List Addr} {n : Nat} {a : Addr} (h : al <+: al') (e : al[n]? = some a) : al'[n]? = some a := by
  obtain ⟨t, rfl⟩ := h
  obtain ⟨hi, _⟩ := List.getElem?_eq_some_iff.mp e
  rw [List.getElem?_append_left hi]; exact e
mutual
theorem UP.mono {K : PySem.W.Frag} {ex : ExK} {H H' : Hp} {al al' : List Addr} (e : Same H H') (p : al <+: al') : ∀ (u : U) (v : V), UP K ex H al u v → UP K ex H' al' u v
  | .d x, v, h => DP.mono e x v h
  | .loc n, _, ⟨a, h1, h2⟩ => ⟨a, pre_get p h1, h2⟩
  | .tl us, _, ⟨a, xs, h1, h2, h3⟩ => ⟨a, xs, h1, sqT_same e h2, UPs.mono e p us xs h3⟩
  | .ll us, _, ⟨a, xs, h1, h2, h3⟩ => ⟨a, xs, h1, e _ _ h2, UPs.mono e p us xs h3⟩
  | .scr _, _, ⟨a, h1, h2⟩ => ⟨a, h1, e.seq h2⟩
  | .fn _, _, h => h
  | .exn _, _, h => h
  | .clo _ _, _, ⟨f, h1, h2⟩ => ⟨f, h1, h2.mono e⟩
theorem UPs.mono {K : PySem.W.Frag} {ex : ExK} {H H' : Hp} {al al' : List Addr} (e : Same H H') (p : al <+: al') : ∀ (us : List U) (vs : List V), UPs K ex H al us vs → UPs K ex H' al' us vs
  | [], _, h => h
  | u :: us, _, ⟨v, r, h1, h2, h3⟩ => ⟨v, r, h1, UP.mono e p u v h2, UPs.mono e p us r h3⟩
end
section
variable {K : PySem.W.Frag} {ex : ExK} {H : Hp} {al : List Addr}
theorem UPs.length : ∀ {us : List U} {vs : List V}, UPs K ex H al us vs → us.length = vs.length
  | [], _, h => by cases h; rfl
  | _ :: _, _, ⟨_, _, h1, _, h3⟩ => by cases h1; simp [UPs.length h3]
theorem UPs.get : ∀ {us : List U} {vs : List V} {i : Nat} {u : U}, UPs K ex H al us vs → us[i]? = some u → ∃ v, vs[i]? = some v ∧ UP K ex H al u v
  | [], _, _, _, _, e => by simp at e
  | _ :: _, _, 0, _, ⟨v, _, h1, h2, _⟩, e => by cases h1; simp at e; subst e; exact ⟨v, rfl, h2⟩
  | _ :: _, _, i + 1, u, ⟨_, _, h1, _, h3⟩, e => by
    cases h1
    obtain ⟨v, q1, q2⟩ := UPs.get (i := i) (u := u) h3 (by simpa using e)
    exact ⟨v, by simpa using q1, q2⟩
theorem UPs.of_ds : ∀ {ds : List PyData} {vs : List V}, DPs K H ds vs → UPs K ex H al (ds.map .d) vs
  | [], _, h => h
  | _ :: _, _, ⟨v, r, h1, h2, h3⟩ => ⟨v, r, h1, h2, UPs.of_ds h3⟩
theorem UPs.to_ds : ∀ {us : List U} {vs : List V} {ds : List PyData}, UPs K ex H al us vs → asDs us = some ds → DPs K H ds vs
  | [], _, _, h, e => by cases e; exact h
  | u :: us, _, ds, ⟨v, r, h1, h2, h3⟩, e => by
    cases u with
    | d x =>
      cases q : asDs us with
      | none => simp [asDs, asD, q] at e
      | some es =>
        simp [asDs, asD, q] at e
        subst e
        exact ⟨v, r, h1, h2, UPs.to_ds h3 q⟩
    | _ => simp [asDs, asD] at e
end
mutual
theorem UP.cl {K : PySem.W.Frag} {ex ex' : ExK} {H : Hp} {al : List Addr} : ∀ (u : U) (v : V), UP K ex H al u v → u.closed = true → UP K ex' H [] u v
  | .d _, _, h, _ => h
  | .scr _, _, h, _ => h
  | .fn _, _, h, _ => h
  | .clo _ _, _, h, _ => h
  | .ll us, _, ⟨a, xs, h1, h2, h3⟩, e => ⟨a, xs, h1, h2, UPs.cl us xs h3 (by rw [U.closed] at e; exact e)⟩
  | .loc _, _, _, e => by simp [U.closed] at e
  | .tl _, _, _, e => by simp [U.closed] at e
  | .exn _, _, _, e => by simp [U.closed] at e
theorem UPs.cl {K : PySem.W.Frag} {ex ex' : ExK} {H : Hp} {al : List Addr} : ∀ (us : List U) (vs : List V), UPs K ex H al us vs → U.closeds us = true → UPs K ex' H [] us vs
  | [], _, h, _ => h
  | u :: us, _, ⟨v, r, h1, h2, h3⟩, e => by
    rw [U.closeds, Bool.and_eq_true] at e
    exact ⟨v, r, h1, UP.cl u v h2 e.1, UPs.cl us r h3 e.2⟩
end
section
variable {K : PySem.W.Frag} {ex : ExK} {H : Hp} {al : List Addr}
theorem UPs.closed {us : List U} {vs : List V} (h : UPs K ex H al us vs) (e : us.all U.closed = true) : UPs K ex H [] us vs := UPs.cl us vs h (by rw [U.closeds_all]; exact e)
/-- .. whatever errors are known -/
theorem UPs.exAny {ex' : ExK} {us : List U} {vs : List V} (h : UPs K ex H [] us vs) (e : us.all U.closed = true) : UPs K ex' H [] us vs := UPs.cl us vs h (by rw [U.closeds_all]; exact e)
end

/-! tables of code objects -/
def NT (H : Hp) : Prop := ∀ b ps, H b ≠ some (.tbl ps)
def noT (H : Hp) : Hp := fun b => match H b with
  | some (.tbl _) => none
  | o => o
theorem noT_some {H : Hp} {b : Addr} {x : HO} (e : H b = some x) (h : ∀ ps, x ≠ .tbl ps) : noT H b = some x := by
  unfold noT
  rw [e]
  cases x <;> first | rfl | exact absurd rfl (h _)
theorem noT_sub {H : Hp} {b : Addr} {x : HO} (e : noT H b = some x) : H b = some x := by
  unfold noT at e
  split at e
  · cases e
  · exact e
theorem nt_noT (H : Hp) : NT (noT H) := fun b ps e => by
  have q := noT_sub e
  unfold noT at e
  rw [q] at e
  cases e
theorem noT_none {H : Hp} {b : Addr} (e : H b = none) : noT H b = none := by
  unfold noT
  rw [e]
theorem noT_eq {H H0 : Hp} {b : Addr} (e : H b = H0 b) (h : NT H0) : noT H b = H0 b := by
  cases q : H0 b with
  | none => exact noT_none (e.trans q)
  | some x => exact noT_some (e.trans q) fun ps z => h b ps (by rw [q, z])
theorem nt_upd {H : Hp} {p : Addr} {o : HO} (h : NT H) (ho : ∀ ps, o ≠ .tbl ps) : NT (upd H p o) := fun b ps e => by
  by_cases hb : b = p
  · subst hb; rw [upd_same] at e; exact ho ps (Option.some.inj e)
  · rw [upd_ne hb] at e; exact h b ps e
mutual
theorem DP.noT {K : PySem.W.Frag} {H : Hp} : ∀ (d : PyData) (v : V), DP K H d v → DP K (noT H) d v
  | .none, _, h => h
  | .bool _, _, h => h
  | .int _, _, h => h
  | .str _, _, h => h
  | .list ds, _, ⟨a, xs, h1, h2, h3⟩ => ⟨a, xs, h1, noT_some h2 (fun _ z => nomatch z), DPs.noT ds xs h3⟩
  | .tuple ds, _, ⟨a, xs, h1, h2, h3⟩ => ⟨a, xs, h1, ⟨by
      rcases h2.sq with (h | ⟨o, h⟩) | h
      · exact .inl (.inl (noT_some h (fun _ z => nomatch z)))
      · exact .inl (.inr ⟨o, noT_some h (fun _ z => nomatch z)⟩)
      · exact .inr h, fun z => by
      rcases h2.nd z with ⟨o, u, h, c⟩ | h
      · exact .inl ⟨o, u, noT_some h (fun _ z => nomatch z), c⟩
      · exact .inr h⟩, DPs.noT ds xs h3⟩
  | .dict _, _, h => h.elim
theorem DPs.noT {K : PySem.W.Frag} {H : Hp} : ∀ (ds : List PyData) (vs : List V), DPs K H ds vs → DPs K (noT H) ds vs
  | [], _, h => h
  | d :: ds, _, ⟨v, r, h1, h2, h3⟩ => ⟨v, r, h1, DP.noT d v h2, DPs.noT ds r h3⟩
end
theorem tabS_upd {H : Hp} {P a : Addr} {q : Str} {o o0 : HO} (t : LamX.TabS H P q) (ha : H a = some o0) (h1 : ∀ ps, o0 ≠ .tbl ps) (h2 : ∀ g, o0 ≠ .ext g) : LamX.TabS (upd H a o) P q := by
  obtain ⟨ps, e1, e2, e3⟩ := t
  have ne : ∀ {b x}, H b = some x → x ≠ o0 → b ≠ a := fun {b x} e n z => by
    subst z
    rw [e] at ha
    exact n (Option.some.inj ha)
  refine ⟨ps, by rw [upd_ne (ne e1 fun z => h1 ps z.symm)]; exact e1, e2, fun pos cv hc => ?_⟩
  obtain ⟨c, k1, k2⟩ := e3 pos cv hc
  exact ⟨c, k1, by rw [upd_ne (ne k2 fun z => h2 _ z.symm)]; exact k2⟩
/-- the name of a def's lambdas -/
def lamQ (f : Str) : Str := (f ++ ".<locals>.") ++ "<lambda>"
def COk (K : PySem.W.Frag) (ex : ExK) (HF H0 H : Hp) (al : List Addr) (a : Addr) : Cell → Prop
  | .dead => H0 a ≠ none
  | .lst ds => HF a = none ∧ H0 a = none ∧ ∃ vs, H a = some (.lst vs) ∧ DPs K H0 ds vs
  | .dct kvs => HF a = none ∧ H0 a = none ∧ ∃ ws : List (Key × V), H a = some (.dK ws) ∧ ws.map (·.1) = kvs.map (·.1) ∧ DPs K H0 (kvs.map (·.2)) (ws.map (·.2))
  | .ins c fs => HF a = none ∧ H0 a = none ∧ ∃ dx ws, H a = some (.ins (He.ga K c) dx ws) ∧ ws.map (·.1) = fs.map (·.1) ∧ UPs K ex H0 al (fs.map (·.2)) (ws.map (·.2)) ∧ HF dx = none ∧ H0 dx = none ∧ H dx = some (.own a) ∧ dx ∉ al
  | .tab f => HF a = none ∧ H0 a = none ∧ LamX.TabS H a (lamQ f) ∧ (NT HF ∧ a = tabA K f) ∧ NT H0

/-- HF: what must stay as it is; H0: the data; al: where the cells of S stand -/
structure Rl (K : PySem.W.Frag) (ex : ExK) (HF H0 H : Hp) (al : List Addr) (S : Store) : Prop where
  fr : Same HF H
  fz : Same H0 H
  len : al.length = S.length
  nd : al.Nodup
  at_ : ∀ (n : Nat) (a : Addr) (c : Cell), al[n]? = some a → S[n]? = some c → COk K ex HF H0 H al a c
  old : ∀ a ∈ al, H a ≠ none
structure Xt (HF H0 H0' : Hp) (al al' : List Addr) : Prop where
  sub : Same H0 H0'
  new : ∀ b, HF b ≠ none → H0' b = H0 b
  pre : al <+: al'
theorem Xt.refl {HF H0 : Hp} {al : List Addr} : Xt HF H0 H0 al al := ⟨Same.refl _, fun _ _ => rfl, List.prefix_refl _⟩
theorem Xt.trans {HF H0 H1 H2 : Hp} {al al1 al2 : List Addr} (a : Xt HF H0 H1 al al1) (b : Xt HF H1 H2 al1 al2) : Xt HF H0 H2 al al2 :=
  ⟨a.sub.trans b.sub, fun c h => (b.new c h).trans (a.new c h), a.pre.trans b.pre⟩

structure Sl (K : PySem.W.Frag) (ex : ExK) (H0 : Hp) (al : List Addr) (s : L2.St) (r : Rho) : Prop where
  len : s.length = r.length
  at_ : ∀ (i : Nat) (u : U), r[i]? = some (some u) → ∃ v, s[i]? = some (some v) ∧ UP K ex H0 al u v
section
variable {K : PySem.W.Frag} {ex : ExK} {HF H0 H0' H : Hp} {al al' : List Addr} {s : L2.St} {r : Rho} {S : Store}
theorem Sl.ext (h : Sl K ex H0 al s r) (e : Xt HF H0 H0' al al') : Sl K ex H0' al' s r :=
  ⟨h.len, fun i u q => by
    obtain ⟨v, h1, h2⟩ := h.at_ i u q
    exact ⟨v, h1, UP.mono e.sub e.pre u v h2⟩⟩
theorem Sl.mono (h : Sl K ex H0 al s r) (e : Same H0 H0') (p : al <+: al') : Sl K ex H0' al' s r :=
  ⟨h.len, fun i u q => by
    obtain ⟨v, h1, h2⟩ := h.at_ i u q
    exact ⟨v, h1, UP.mono e p u v h2⟩⟩
theorem Sl.set {i : Nat} {u : U} {v : V} (h : Sl K ex H0 al s r) (q : UP K ex H0 al u v) : Sl K ex H0 al (s.set i (some v)) (r.set i (some u)) := by
  refine ⟨by simp [h.len], fun j w e => ?_⟩
  by_cases hj : i = j
  · subst hj
    rw [List.getElem?_set] at e
    simp only [if_true] at e
    split at e
    · rename_i hi
      cases e
      exact ⟨v, by rw [List.getElem?_set_self (by rw [h.len]; exact hi)], q⟩
    · cases e
  · rw [List.getElem?_set_ne hj] at e
    obtain ⟨v', h1, h2⟩ := h.at_ j w e
    exact ⟨v', by rw [List.getElem?_set_ne hj]; exact h1, h2⟩
theorem Sl.unset {i : Nat} {v : Option V} (h : Sl K ex H0 al s r) : Sl K ex H0 al (s.set i v) (r.set i none) := by
  refine ⟨by simp [h.len], fun j w e => ?_⟩
  by_cases hj : i = j
  · subst hj
    rw [List.getElem?_set] at e
    simp only [if_true] at e
    split at e
    · cases e
    · cases e
  · rw [List.getElem?_set_ne hj] at e
    obtain ⟨v', h1, h2⟩ := h.at_ j w e
    exact ⟨v', by rw [List.getElem?_set_ne hj]; exact h1, h2⟩
theorem Sl.wipe (h : Sl K ex H0 al s r) : ∀ vs : List Nat, Sl K ex H0 al (L2.wipe s vs) (wipeR r vs)
  | [] => h
  | v :: vs => (h.wipe vs).unset
end

/-! ### reading through a cell -/
/-- v reads as x: a list of data is shallowly there, all else as data -/
def Rd1 (K : PySem.W.Frag) (H0 H : Hp) (x : PyData) (v : V) : Prop := match x with
  | .list ds => ∃ a vs, v = .ref a ∧ SqL K H a vs ∧ DPs K H0 ds vs
  | x => DP K H0 x v
def RdS (K : PySem.W.Frag) (H0 H : Hp) (x : PyData) (v : V) : Prop := match x with
  | .list ds => ∃ a vs, v = .ref a ∧ H a = some (.lst vs) ∧ DPs K H0 ds vs
  | x => DP K H0 x v
section
variable {K : PySem.W.Frag} {ex : ExK} {HF H0 H0' H : Hp} {al al' : List Addr} {S : Store}
theorem rdS_of (R : Rl K ex HF H0 H al S) : ∀ {u : U} {v : V} {x : PyData}, UP K ex H0 al u v → rd1 S u = some x → RdS K H0 H x v := by
  intro u v x h e
  cases u with
  | d y =>
    have e' : y = x := Option.some.inj e
    subst e'
    cases y with
    | list ds =>
      obtain ⟨a, vs, h1, h2, h3⟩ := h
      exact ⟨a, vs, h1, R.fz _ _ h2, h3⟩
    | _ => exact h
  | loc n =>
    obtain ⟨a, h1, h2⟩ := h
    have e' : (match S[n]? with | some (.lst ds) => some (PyData.list ds) | _ => none) = some x := e
    split at e'
    · rename_i ds q
      cases e'
      obtain ⟨_, _, vs, h3, h4⟩ := R.at_ n a (.lst ds) h1 q
      exact ⟨a, vs, h2, h3, h4⟩
    · cases e'
  | _ => cases e
theorem RdS.rd1 {x : PyData} {v : V} (h : RdS K H0 H x v) : Rd1 K H0 H x v := by
  cases x with
  | list ds =>
    obtain ⟨a, vs, h1, h2, h3⟩ := h
    exact ⟨a, vs, h1, SqL.of h2, h3⟩
  | _ => exact h
theorem rd_of (R : Rl K ex HF H0 H al S) : ∀ {u : U} {v : V} {x : PyData}, UP K ex H0 al u v → rd S u = some x → Rd1 K H0 H x v := by
  intro u v x h e
  cases u with
  | d y => exact (rdS_of R h (u := .d y) e).rd1
  | loc n => exact (rdS_of R h (u := .loc n) e).rd1
  | scr ns =>
    cases e
    obtain ⟨a, h1, h2⟩ := h
    exact ⟨a, _, h1, R.fz.seq h2, DPs.ints ns⟩
  | _ => cases e
theorem Rd1.dp (f : Same H0 H) {x : PyData} {v : V} (h : Rd1 K H0 H x v) : Dp K H v x := by
  cases x with
  | list ds =>
    obtain ⟨a, vs, rfl, h2, h3⟩ := h
    exact .lst h2 (DPs.dps ds vs (DPs.mono f ds vs h3))
  | _ => exact DP.dp _ _ (DP.mono f _ _ h)
theorem Rd1.plain {x : PyData} {v : V} (h : Rd1 K H0 H x v) : x.plain = true := by
  cases x with
  | list ds => obtain ⟨a, vs, rfl, h2, h3⟩ := h; exact DPs.plain ds vs h3
  | _ => exact DP.plain (K := K) (H := H0) _ v h
def Rd1s (K : PySem.W.Frag) (H0 H : Hp) : List PyData → List V → Prop
  | [], vs => vs = []
  | x :: xs, vs => ∃ v r, vs = v :: r ∧ Rd1 K H0 H x v ∧ Rd1s K H0 H xs r
theorem rds_of (R : Rl K ex HF H0 H al S) : ∀ {us : List U} {vs : List V} {xs : List PyData}, UPs K ex H0 al us vs → rds S us = some xs → Rd1s K H0 H xs vs
  | [], _, _, h, e => by cases e; exact h
  | u :: us, _, xs, ⟨v, r, h1, h2, h3⟩, e => by
    cases q : rd S u with
    | none => simp [rds, q] at e
    | some x =>
      cases q2 : rds S us with
      | none => simp [rds, q, q2] at e
      | some ys =>
        simp [rds, q, q2] at e
        subst e
        exact ⟨v, r, h1, rd_of R h2 q, rds_of R h3 q2⟩

/-! ### new data, changed cells -/
/-- a new list or tuple of data, laid at p -/
theorem Rl.lay (R : Rl K ex HF H0 H al S) {p : Addr} {o : HO} (hp : H p = none) (ho : ∀ ps, o ≠ .tbl ps := by intro _ z; cases z) : Rl K ex HF (upd H0 p o) (upd H p o) al S ∧ Xt HF H0 (upd H0 p o) al al := by
  have h0 : H0 p = none := R.fz.free hp
  have hF : HF p = none := R.fr.free hp
  have su : Same H0 (upd H0 p o) := fun b x e => by rw [upd_ne (ne_of_none e h0)]; exact e
  have suH : Same H (upd H p o) := fun b x e => by rw [upd_ne (ne_of_none e hp)]; exact e
  refine ⟨⟨R.fr.trans suH, fun b x e => ?_, R.len, R.nd, fun n a c h1 h2 => ?_, fun a ha => ?_⟩, ⟨su, fun b hb => ?_, List.prefix_refl _⟩⟩
  · by_cases hb : b = p
    · subst hb; rw [upd_same] at e ⊢; exact e
    · rw [upd_ne hb] at e ⊢; exact R.fz b x e
  · have hap : a ≠ p := fun z => R.old a (List.mem_of_getElem? h1) (by rw [z]; exact hp)
    have q := R.at_ n a c h1 h2
    cases c with
    | dead => exact (show upd H0 p o a ≠ none by rw [upd_ne hap]; exact q)
    | lst ds =>
      obtain ⟨q1, q2, vs, q3, q4⟩ := q
      exact ⟨q1, by rw [upd_ne hap]; exact q2, vs, by rw [upd_ne hap]; exact q3, DPs.mono su ds vs q4⟩
    | dct kvs =>
      obtain ⟨q1, q2, ws, q3, q4, q5⟩ := q
      exact ⟨q1, by rw [upd_ne hap]; exact q2, ws, by rw [upd_ne hap]; exact q3, q4, DPs.mono su _ _ q5⟩
    | ins cn fs =>
      obtain ⟨q1, q2, dx, ws, q3, q4, q5, q6, q7, q8, q9⟩ := q
      have hdp : dx ≠ p := ne_of_none q8 hp
      exact ⟨q1, by rw [upd_ne hap]; exact q2, dx, ws, by rw [upd_ne hap]; exact q3, q4, UPs.mono su (List.prefix_refl _) _ _ q5, q6, by rw [upd_ne hdp]; exact q7, by rw [upd_ne hdp]; exact q8, q9⟩
    | tab q =>
      obtain ⟨q1, q2, q3, q4, q5⟩ := q
      exact ⟨q1, by rw [upd_ne hap]; exact q2, q3.ext suH, q4, nt_upd q5 ho⟩
  · have hap : a ≠ p := fun z => R.old a ha (by rw [z]; exact hp)
    rw [upd_ne hap]; exact R.old a ha
  · have hb' : b ≠ p := fun z => hb (by rw [z]; exact hF)
    rw [upd_ne hb']
/-- the data grows, all else is as it was (behind a call) -/
theorem Rl.grow (R : Rl K ex HF H0 H al S) {H' : Hp} (s1 : Same H H') (s0 : Same H0 H0') (n0 : ∀ b, H b ≠ none → H0' b = H0 b) (f0 : Same H0' H') (nt : NT H0 → NT H0') : Rl K ex HF H0' H' al S ∧ Xt HF H0 H0' al al := by
  refine ⟨⟨R.fr.trans s1, f0, R.len, R.nd, fun n a c h1 h2 => ?_, fun a ha z => ?_⟩, ⟨s0, fun b hb => n0 b fun z => ?_, List.prefix_refl _⟩⟩
  · have hz : H0' a = H0 a := n0 a (R.old a (List.mem_of_getElem? h1))
    have q := R.at_ n a c h1 h2
    cases c with
    | dead => exact (show H0' a ≠ none by rw [hz]; exact q)
    | lst ds =>
      obtain ⟨q1, q2, vs, q3, q4⟩ := q
      exact ⟨q1, by rw [hz]; exact q2, vs, s1 _ _ q3, DPs.mono s0 ds vs q4⟩
    | dct kvs =>
      obtain ⟨q1, q2, ws, q3, q4, q5⟩ := q
      exact ⟨q1, by rw [hz]; exact q2, ws, s1 _ _ q3, q4, DPs.mono s0 _ _ q5⟩
    | ins cn fs =>
      obtain ⟨q1, q2, dx, ws, q3, q4, q5, q6, q7, q8, q9⟩ := q
      exact ⟨q1, by rw [hz]; exact q2, dx, ws, s1 _ _ q3, q4, UPs.mono s0 (List.prefix_refl _) _ _ q5, q6, by rw [n0 dx (by rw [q8]; simp)]; exact q7, s1 _ _ q8, q9⟩
    | tab q =>
      obtain ⟨q1, q2, q3, q4, q5⟩ := q
      exact ⟨q1, by rw [hz]; exact q2, q3.ext s1, q4, nt q5⟩
  · cases q : H a with
    | none => exact R.old a ha q
    | some o => rw [s1 _ _ q] at z; cases z
  · cases q : HF b with
    | none => exact hb q
    | some o => rw [R.fr _ _ q] at z; cases z
/-- a list's cell changed -/
theorem Rl.put (R : Rl K ex HF H0 H al S) {n : Nat} {a : Addr} {ds es : List PyData} {ws : List V} (h1 : al[n]? = some a) (h2 : S[n]? = some (.lst ds)) (hw : DPs K H0 es ws) : Rl K ex HF H0 (upd H a (.lst ws)) al (S.set n (.lst es)) := by
  obtain ⟨q1, q2, vs, q3, q4⟩ := R.at_ n a _ h1 h2
  have other : ∀ (m : Nat) (b : Addr), al[m]? = some b → m ≠ n → b ≠ a := fun m b hb hm z => by
    subst z
    obtain ⟨hm1, e1⟩ := List.getElem?_eq_some_iff.mp hb
    obtain ⟨hn1, e2⟩ := List.getElem?_eq_some_iff.mp h1
    exact hm ((List.getElem_inj R.nd).mp (e1.trans e2.symm))
  refine ⟨fun b x e => ?_, fun b x e => ?_, by rw [List.length_set]; exact R.len, R.nd, fun m b c hb hc => ?_, fun b hb => ?_⟩
  · have hba : b ≠ a := fun z => by rw [z, q1] at e; cases e
    rw [upd_ne hba]; exact R.fr b x e
  · have hba : b ≠ a := fun z => by rw [z, q2] at e; cases e
    rw [upd_ne hba]; exact R.fz b x e
  · by_cases hm : m = n
    · subst hm
      rw [h1] at hb; cases hb
      obtain ⟨hn1, _⟩ := List.getElem?_eq_some_iff.mp h2
      rw [List.getElem?_set_self hn1] at hc
      cases hc
      exact ⟨q1, q2, ws, upd_same, hw⟩
    · rw [List.getElem?_set_ne (Ne.symm hm)] at hc
      have hba := other m b hb hm
      have q := R.at_ m b c hb hc
      cases c with
      | dead => exact q
      | lst ds =>
        obtain ⟨p1, p2, us, p3, p4⟩ := q
        exact ⟨p1, p2, us, by rw [upd_ne hba]; exact p3, p4⟩
      | dct kvs =>
        obtain ⟨p1, p2, us, p3, p4, p5⟩ := q
        exact ⟨p1, p2, us, by rw [upd_ne hba]; exact p3, p4, p5⟩
      | ins cn fs =>
        obtain ⟨p1, p2, dx, us, p3, p4, p5, p6, p7, p8, p9⟩ := q
        have hdx : dx ≠ a := fun z => p9 (z ▸ List.mem_of_getElem? h1)
        exact ⟨p1, p2, dx, us, by rw [upd_ne hba]; exact p3, p4, p5, p6, p7, by rw [upd_ne hdx]; exact p8, p9⟩
      | tab q =>
        obtain ⟨p1, p2, p3, p4, p5⟩ := q
        exact ⟨p1, p2, tabS_upd p3 q3 (fun _ z => nomatch z) (fun _ z => nomatch z), p4, p5⟩
  · by_cases hba : b = a
    · subst hba; rw [upd_same]; simp
    · rw [upd_ne hba]; exact R.old b hb
/-- a new cell -/
theorem Rl.push (R : Rl K ex HF H0 H al S) {p : Addr} {ds : List PyData} {vs : List V} (hp : H p = none) (hw : DPs K H0 ds vs) : Rl K ex HF H0 (upd H p (.lst vs)) (al ++ [p]) (S ++ [.lst ds]) ∧ Xt HF H0 H0 al (al ++ [p]) := by
  have h0 : H0 p = none := R.fz.free hp
  have hF : HF p = none := R.fr.free hp
  have suH : Same H (upd H p (.lst vs)) := fun b x e => by rw [upd_ne (ne_of_none e hp)]; exact e
  have hn : p ∉ al := fun z => R.old p z hp
  have pre : al <+: al ++ [p] := List.prefix_append _ _
  refine ⟨⟨R.fr.trans suH, R.fz.trans suH, by simp [R.len], ?_, fun m b c hb hc => ?_, fun b hb => ?_⟩, ⟨Same.refl _, fun _ _ => rfl, pre⟩⟩
  · rw [List.nodup_append]
    exact ⟨R.nd, by simp, fun x hx y hy => by rw [List.mem_singleton.mp hy]; exact fun z => hn (z ▸ hx)⟩
  · by_cases hm : m < al.length
    · rw [List.getElem?_append_left hm] at hb
      rw [List.getElem?_append_left (by rw [← R.len]; exact hm)] at hc
      have hbp : b ≠ p := fun z => hn (z ▸ List.mem_of_getElem? hb)
      have q := R.at_ m b c hb hc
      cases c with
      | dead => exact q
      | lst ds =>
        obtain ⟨p1, p2, us, p3, p4⟩ := q
        exact ⟨p1, p2, us, by rw [upd_ne hbp]; exact p3, p4⟩
      | dct kvs =>
        obtain ⟨p1, p2, us, p3, p4, p5⟩ := q
        exact ⟨p1, p2, us, by rw [upd_ne hbp]; exact p3, p4, p5⟩
      | ins cn fs =>
        obtain ⟨p1, p2, dx, us, p3, p4, p5, p6, p7, p8, p9⟩ := q
        have hdp : dx ≠ p := ne_of_none p8 hp
        exact ⟨p1, p2, dx, us, by rw [upd_ne hbp]; exact p3, p4, UPs.mono (Same.refl _) pre _ _ p5, p6, p7, by rw [upd_ne hdp]; exact p8, by simp only [List.mem_append, List.mem_singleton, not_or]; exact ⟨p9, hdp⟩⟩
      | tab q =>
        obtain ⟨p1, p2, p3, p4, p5⟩ := q
        exact ⟨p1, p2, p3.ext suH, p4, p5⟩
    · have hl : m = al.length := by
        obtain ⟨q, _⟩ := List.getElem?_eq_some_iff.mp hb
        simp at q; omega
      subst hl
      rw [List.getElem?_append_right (Nat.le_refl _)] at hb
      rw [List.getElem?_append_right (by rw [R.len]; exact Nat.le_refl _)] at hc
      simp [R.len] at hb hc
      subst hb hc
      exact ⟨hF, h0, vs, upd_same, hw⟩
  · rcases List.mem_append.mp hb with hb | hb
    · have hbp : b ≠ p := fun z => hn (z ▸ hb)
      rw [upd_ne hbp]; exact R.old b hb
    · rw [List.mem_singleton.mp hb, upd_same]; simp
/-- a list that nobody knows yet -/
theorem Rl.adopt (R : Rl K ex HF H0 H al S) {p : Addr} {ds : List PyData} {vs : List V} (hp : H p = some (.lst vs)) (hF : HF p = none) (h0 : H0 p = none) (hn : p ∉ al) (hw : DPs K H0 ds vs) : Rl K ex HF H0 H (al ++ [p]) (S ++ [.lst ds]) ∧ Xt HF H0 H0 al (al ++ [p]) := by
  have pre : al <+: al ++ [p] := List.prefix_append _ _
  refine ⟨⟨R.fr, R.fz, by simp [R.len], ?_, fun m b c hb hc => ?_, fun b hb => ?_⟩, ⟨Same.refl _, fun _ _ => rfl, pre⟩⟩
  · rw [List.nodup_append]
    exact ⟨R.nd, by simp, fun x hx y hy => by rw [List.mem_singleton.mp hy]; exact fun z => hn (z ▸ hx)⟩
  · by_cases hm : m < al.length
    · rw [List.getElem?_append_left hm] at hb
      rw [List.getElem?_append_left (by rw [← R.len]; exact hm)] at hc
      have q := R.at_ m b c hb hc
      cases c with
      | dead => exact q
      | lst ds => exact q
      | dct kvs => exact q
      | ins cn fs =>
        obtain ⟨p1, p2, dx, us, p3, p4, p5, p6, p7, p8, p9⟩ := q
        have hdp : dx ≠ p := fun z => by rw [z, hp] at p8; cases p8
        exact ⟨p1, p2, dx, us, p3, p4, UPs.mono (Same.refl _) pre _ _ p5, p6, p7, p8, by simp only [List.mem_append, List.mem_singleton, not_or]; exact ⟨p9, hdp⟩⟩
      | tab q' => exact q
    · have hl : m = al.length := by
        obtain ⟨q, _⟩ := List.getElem?_eq_some_iff.mp hb
        simp at q; omega
      subst hl
      rw [List.getElem?_append_right (Nat.le_refl _)] at hb
      rw [List.getElem?_append_right (by rw [R.len]; exact Nat.le_refl _)] at hc
      simp [R.len] at hb hc
      subst hb hc
      exact ⟨hF, h0, vs, hp, hw⟩
  · rcases List.mem_append.mp hb with hb | hb
    · exact R.old b hb
    · rw [List.mem_singleton.mp hb, hp]; simp
/-- a cell changed: any kind -/
theorem Rl.putC (R : Rl K ex HF H0 H al S) {n : Nat} {a : Addr} {c0 c1 : Cell} {o o0 : HO} (qa : H a = some o0 ∧ (∀ ps, o0 ≠ .tbl ps) ∧ ∀ g, o0 ≠ .ext g) (h1 : al[n]? = some a) (h2 : S[n]? = some c0) (q1 : HF a = none) (q2 : H0 a = none) (hw : COk K ex HF H0 (upd H a o) al a c1) : Rl K ex HF H0 (upd H a o) al (S.set n c1) := by
  have other : ∀ (m : Nat) (b : Addr), al[m]? = some b → m ≠ n → b ≠ a := fun m b hb hm z => by
    subst z
    obtain ⟨hm1, e1⟩ := List.getElem?_eq_some_iff.mp hb
    obtain ⟨hn1, e2⟩ := List.getElem?_eq_some_iff.mp h1
    exact hm ((List.getElem_inj R.nd).mp (e1.trans e2.symm))
  refine ⟨fun b x e => ?_, fun b x e => ?_, by rw [List.length_set]; exact R.len, R.nd, fun m b c hb hc => ?_, fun b hb => ?_⟩
  · have hba : b ≠ a := fun z => by rw [z, q1] at e; cases e
    rw [upd_ne hba]; exact R.fr b x e
  · have hba : b ≠ a := fun z => by rw [z, q2] at e; cases e
    rw [upd_ne hba]; exact R.fz b x e
  · by_cases hm : m = n
    · subst hm
      rw [h1] at hb; cases hb
      obtain ⟨hn1, _⟩ := List.getElem?_eq_some_iff.mp h2
      rw [List.getElem?_set_self hn1] at hc
      cases hc
      exact hw
    · rw [List.getElem?_set_ne (Ne.symm hm)] at hc
      have hba := other m b hb hm
      have q := R.at_ m b c hb hc
      cases c with
      | dead => exact q
      | lst ds =>
        obtain ⟨p1, p2, us, p3, p4⟩ := q
        exact ⟨p1, p2, us, by rw [upd_ne hba]; exact p3, p4⟩
      | dct kvs =>
        obtain ⟨p1, p2, us, p3, p4, p5⟩ := q
        exact ⟨p1, p2, us, by rw [upd_ne hba]; exact p3, p4, p5⟩
      | ins cn fs =>
        obtain ⟨p1, p2, dx, us, p3, p4, p5, p6, p7, p8, p9⟩ := q
        have hdx : dx ≠ a := fun z => p9 (z ▸ List.mem_of_getElem? h1)
        exact ⟨p1, p2, dx, us, by rw [upd_ne hba]; exact p3, p4, p5, p6, p7, by rw [upd_ne hdx]; exact p8, p9⟩
      | tab q =>
        obtain ⟨p1, p2, p3, p4, p5⟩ := q
        exact ⟨p1, p2, tabS_upd p3 qa.1 qa.2.1 qa.2.2, p4, p5⟩
  · by_cases hba : b = a
    · subst hba; rw [upd_same]; simp
    · rw [upd_ne hba]; exact R.old b hb
/-- a new cell: any kind -/
theorem Rl.pushC (R : Rl K ex HF H0 H al S) {p : Addr} {c0 : Cell} {o : HO} (hp : H p = none) (hw : HF p = none → H0 p = none → COk K ex HF H0 (upd H p o) (al ++ [p]) p c0) : Rl K ex HF H0 (upd H p o) (al ++ [p]) (S ++ [c0]) ∧ Xt HF H0 H0 al (al ++ [p]) := by
  have h0 : H0 p = none := R.fz.free hp
  have hF : HF p = none := R.fr.free hp
  have suH : Same H (upd H p o) := fun b x e => by rw [upd_ne (ne_of_none e hp)]; exact e
  have hn : p ∉ al := fun z => R.old p z hp
  have pre : al <+: al ++ [p] := List.prefix_append _ _
  refine ⟨⟨R.fr.trans suH, R.fz.trans suH, by simp [R.len], ?_, fun m b c hb hc => ?_, fun b hb => ?_⟩, ⟨Same.refl _, fun _ _ => rfl, pre⟩⟩
  · rw [List.nodup_append]
    exact ⟨R.nd, by simp, fun x hx y hy => by rw [List.mem_singleton.mp hy]; exact fun z => hn (z ▸ hx)⟩
  · by_cases hm : m < al.length
    · rw [List.getElem?_append_left hm] at hb
      rw [List.getElem?_append_left (by rw [← R.len]; exact hm)] at hc
      have hbp : b ≠ p := fun z => hn (z ▸ List.mem_of_getElem? hb)
      have q := R.at_ m b c hb hc
      cases c with
      | dead => exact q
      | lst ds =>
        obtain ⟨p1, p2, us, p3, p4⟩ := q
        exact ⟨p1, p2, us, by rw [upd_ne hbp]; exact p3, p4⟩
      | dct kvs =>
        obtain ⟨p1, p2, us, p3, p4, p5⟩ := q
        exact ⟨p1, p2, us, by rw [upd_ne hbp]; exact p3, p4, p5⟩
      | ins cn fs =>
        obtain ⟨p1, p2, dx, us, p3, p4, p5, p6, p7, p8, p9⟩ := q
        have hdp : dx ≠ p := ne_of_none p8 hp
        exact ⟨p1, p2, dx, us, by rw [upd_ne hbp]; exact p3, p4, UPs.mono (Same.refl _) pre _ _ p5, p6, p7, by rw [upd_ne hdp]; exact p8, by simp only [List.mem_append, List.mem_singleton, not_or]; exact ⟨p9, hdp⟩⟩
      | tab q =>
        obtain ⟨p1, p2, p3, p4, p5⟩ := q
        exact ⟨p1, p2, p3.ext suH, p4, p5⟩
    · have hl : m = al.length := by
        obtain ⟨q, _⟩ := List.getElem?_eq_some_iff.mp hb
        simp at q; omega
      subst hl
      rw [List.getElem?_append_right (Nat.le_refl _)] at hb
      rw [List.getElem?_append_right (by rw [R.len]; exact Nat.le_refl _)] at hc
      simp [R.len] at hb hc
      subst hb hc
      exact hw hF h0
  · rcases List.mem_append.mp hb with hb | hb
    · have hbp : b ≠ p := fun z => hn (z ▸ hb)
      rw [upd_ne hbp]; exact R.old b hb
    · rw [List.mem_singleton.mp hb, upd_same]; simp
/-- a cell becomes data -/
theorem Rl.freeze (R : Rl K ex HF H0 H al S) {n : Nat} {a : Addr} {ds : List PyData} (h1 : al[n]? = some a) (h2 : S[n]? = some (.lst ds)) :
    ∃ H0', Rl K ex HF H0' H al (S.set n .dead) ∧ Xt HF H0 H0' al al ∧ DP K H0' (.list ds) (.ref a) := by
  obtain ⟨q1, q2, vs, q3, q4⟩ := R.at_ n a _ h1 h2
  have su : Same H0 (upd H0 a (.lst vs)) := fun b x e => by rw [upd_ne (ne_of_none e q2)]; exact e
  have other : ∀ (m : Nat) (b : Addr), al[m]? = some b → m ≠ n → b ≠ a := fun m b hb hm z => by
    subst z
    obtain ⟨hm1, e1⟩ := List.getElem?_eq_some_iff.mp hb
    obtain ⟨hn1, e2⟩ := List.getElem?_eq_some_iff.mp h1
    exact hm ((List.getElem_inj R.nd).mp (e1.trans e2.symm))
  refine ⟨upd H0 a (.lst vs), ⟨R.fr, fun b x e => ?_, by rw [List.length_set]; exact R.len, R.nd, fun m b c hb hc => ?_, R.old⟩, ⟨su, fun b hb => ?_, List.prefix_refl _⟩, a, vs, rfl, upd_same, DPs.mono su _ _ q4⟩
  · by_cases hba : b = a
    · subst hba; rw [upd_same] at e; cases e; exact q3
    · rw [upd_ne hba] at e; exact R.fz b x e
  · by_cases hm : m = n
    · subst hm
      obtain ⟨hn1, _⟩ := List.getElem?_eq_some_iff.mp h2
      rw [List.getElem?_set_self hn1] at hc
      cases hc
      rw [h1] at hb
      cases hb
      exact (show upd H0 a (.lst vs) a ≠ none by rw [upd_same]; simp)
    · rw [List.getElem?_set_ne (Ne.symm hm)] at hc
      have hba := other m b hb hm
      have q := R.at_ m b c hb hc
      cases c with
      | dead => exact (show upd H0 a (.lst vs) b ≠ none by rw [upd_ne hba]; exact q)
      | lst ds =>
        obtain ⟨p1, p2, us, p3, p4⟩ := q
        exact ⟨p1, by rw [upd_ne hba]; exact p2, us, p3, DPs.mono su _ _ p4⟩
      | dct kvs =>
        obtain ⟨p1, p2, us, p3, p4, p5⟩ := q
        exact ⟨p1, by rw [upd_ne hba]; exact p2, us, p3, p4, DPs.mono su _ _ p5⟩
      | ins cn fs =>
        obtain ⟨p1, p2, dx, us, p3, p4, p5, p6, p7, p8, p9⟩ := q
        have hdx : dx ≠ a := fun z => p9 (z ▸ List.mem_of_getElem? h1)
        exact ⟨p1, by rw [upd_ne hba]; exact p2, dx, us, p3, p4, UPs.mono su (List.prefix_refl _) _ _ p5, p6, by rw [upd_ne hdx]; exact p7, p8, p9⟩
      | tab q =>
        obtain ⟨p1, p2, p3, p4, p5⟩ := q
        exact ⟨p1, by rw [upd_ne hba]; exact p2, p3, p4, nt_upd p5 (fun _ z => nomatch z)⟩
  · have hba : b ≠ a := fun z => hb (by rw [z]; exact q1)
    rw [upd_ne hba]
end
end PD
/-! Part C: the judgements over data, and the rules for expressions. -/
namespace PD
open PySem PySem.Spec PyProof.Rows L2

section
variable (K : PySem.W.Frag) (ex : ExK) (W : WX)
def Post {α β : Type} (HF H0 : Hp) (al : List Addr) (s : L2.St) (rel : Hp → List Addr → α → β → Prop) (r : Res α) (Q : β → Hp → Prop) : Prop := match r with
  | .ok a S' => ∀ v H' H0' al', Xt HF H0 H0' al al' → Rl K ex HF H0' H' al' S' → rel H0' al' a v → Q v H'
  | .exc c S' => ∀ H' H0' al', Xt HF H0 H0' al al' → Rl K ex HF H0' H' al' S' → W (.ref (He.ga K c)) none s H'
  | .bad => False
def Jd {α β : Type} (t : L2.St → Hp → (β → Hp → Prop) → Prop) (f : Rho → Store → Res α) (rel : Hp → List Addr → α → β → Prop) : Prop :=
  ∀ (HF H0 H : Hp) (al : List Addr) (S : Store) (r : Rho) (s : L2.St) (Q : β → Hp → Prop), Rl K ex HF H0 H al S → Sl K ex H0 al s r → Post K ex W HF H0 al s rel (f r S) Q → t s H Q
end
section
variable {K : PySem.W.Frag} {ex : ExK} {W : WX} {α β γ δ : Type} {HF H0 H0' H : Hp} {al al' : List Addr} {s : L2.St} {S : Store}
theorem Post.shift {rel : Hp → List Addr → α → β → Prop} {r : Res α} {Q : β → Hp → Prop} (e : Xt HF H0 H0' al al') (h : Post K ex W HF H0 al s rel r Q) : Post K ex W HF H0' al' s rel r Q := by
  cases r with
  | ok a S' => exact fun v H' H0'' al'' e2 => h v H' H0'' al'' (e.trans e2)
  | exc c S' => exact fun H' H0'' al'' e2 => h H' H0'' al'' (e.trans e2)
  | bad => exact h
theorem Post.bind {relA : Hp → List Addr → α → β → Prop} {relB : Hp → List Addr → γ → δ → Prop} {fa : Res α} {g : α → Store → Res γ} {Q : δ → Hp → Prop} {Q' : β → Hp → Prop} (h : Post K ex W HF H0 al s relB (fa.bind g) Q)
    (k : ∀ a S' v H' H0' al', Xt HF H0 H0' al al' → Rl K ex HF H0' H' al' S' → relA H0' al' a v → Post K ex W HF H0' al' s relB (g a S') Q → Q' v H') : Post K ex W HF H0 al s relA fa Q' := by
  cases fa with
  | ok a S' => exact fun v H' H0' al' e R hr => k a S' v H' H0' al' e R hr (Post.shift e h)
  | exc c S' => exact h
  | bad => exact h
/-- a value that is there -/
theorem Post.now {rel : Hp → List Addr → α → β → Prop} {a : α} {v : β} {Q : β → Hp → Prop} (h : Post K ex W HF H0 al s rel (.ok a S) Q) (R : Rl K ex HF H0 H al S) (hv : rel H0 al a v) : Q v H := h v H H0 al Xt.refl R hv
theorem same_lay {p : Addr} {o : HO} (hp : H p = none) : Same H (upd H p o) := fun b x e => by rw [upd_ne (ne_of_none e hp)]; exact e
theorem Post.newL {ds : List PyData} {vs : List V} {p : Addr} {Q : VK} (h : Post K ex W HF H0 al s (UP K ex) (.ok (.d (.list ds)) S) Q) (R : Rl K ex HF H0 H al S) (hp : H p = none) (hd : DPs K H0 ds vs) : Q (.ref p) (upd H p (.lst vs)) :=
  let ⟨R', e⟩ := R.lay (o := .lst vs) hp
  h (.ref p) _ _ al e R' ⟨p, vs, rfl, upd_same, DPs.mono e.sub ds vs hd⟩
theorem Post.newT {ds : List PyData} {vs : List V} {p : Addr} {Q : VK} (h : Post K ex W HF H0 al s (UP K ex) (.ok (.d (.tuple ds)) S) Q) (R : Rl K ex HF H0 H al S) (hp : H p = none) (hs : strT ds = false) (hd : DPs K H0 ds vs) : Q (.ref p) (upd H p (.tup vs)) :=
  let ⟨R', e⟩ := R.lay (o := .tup vs) hp
  h (.ref p) _ _ al e R' ⟨p, vs, rfl, ⟨.inl (.inl upd_same), fun z => by rw [hs] at z; cases z⟩, DPs.mono e.sub ds vs hd⟩
/-- .. whose object is known -/
theorem Post.newTF {ds : List PyData} {vs : List V} {p : Addr} {o : Obj} {Q : VK} (h : Post K ex W HF H0 al s (UP K ex) (.ok (.d (.tuple ds)) S) Q) (R : Rl K ex HF H0 H al S) (hp : H p = none) (hc : o.cls = .type "tuple") (ho : o.dict = none) (hd : DPs K H0 ds vs) : Q (.ref p) (upd H p (.frz o (.tup vs))) :=
  let ⟨R', e⟩ := R.lay (o := .frz o (.tup vs)) hp
  h (.ref p) _ _ al e R' ⟨p, vs, rfl, ⟨.inl (.inr ⟨o, upd_same⟩), fun _ => .inl ⟨o, _, upd_same, hc, ho⟩⟩, DPs.mono e.sub ds vs hd⟩
theorem Post.newTLF {us : List U} {vs : List V} {p : Addr} {o : Obj} {Q : VK} (h : Post K ex W HF H0 al s (UP K ex) (.ok (.tl us) S) Q) (R : Rl K ex HF H0 H al S) (hp : H p = none) (hd : UPs K ex H0 al us vs) : Q (.ref p) (upd H p (.frz o (.tup vs))) :=
  let ⟨R', e⟩ := R.lay (o := .frz o (.tup vs)) hp
  h (.ref p) _ _ al e R' ⟨p, vs, rfl, .inl (.inr ⟨o, upd_same⟩), UPs.mono e.sub e.pre us vs hd⟩
theorem Post.newTL {us : List U} {vs : List V} {p : Addr} {Q : VK} (h : Post K ex W HF H0 al s (UP K ex) (.ok (.tl us) S) Q) (R : Rl K ex HF H0 H al S) (hp : H p = none) (hd : UPs K ex H0 al us vs) : Q (.ref p) (upd H p (.tup vs)) :=
  let ⟨R', e⟩ := R.lay (o := .tup vs) hp
  h (.ref p) _ _ al e R' ⟨p, vs, rfl, .inl (.inl upd_same), UPs.mono e.sub e.pre us vs hd⟩
end

/-! ### the judgements -/
def DE (X : Cx) (ex : ExK) (W : WX) (p : P) (e : Expr) : Prop := ∃ t, PE X e t ∧ Jd X.K ex W t (evalE p) (UP X.K ex)
noncomputable def evalT (p : P) (r : Rho) (S : Store) : Res Bool := (evalE p r S).bind fun u S1 => lift (asB u) S1
def BR : Hp → List Addr → Bool → Bool → Prop := fun _ _ a b => b = a
def DT (X : Cx) (ex : ExK) (W : WX) (p : P) (e : Expr) : Prop := ∃ t, PT X e t ∧ Jd X.K ex W t (evalT p) BR
def DA (X : Cx) (ex : ExK) (W : WX) (ps : Ps) (es : List Expr) : Prop := ∃ t, PA X es t ∧ Jd X.K ex W t (evalEs ps) (UPs X.K ex)

section
variable {X : Cx} {ex : ExK} {W : WX}

theorem de_var {i : Nat} {x : Str} {pos : Pos} (hN : X.N[i]? = some x) (hv : Vis X.env.scope x) (hd : (x == ("__debug__" : Str)) = false) (hcd : (x == ("__classdict__" : Str)) = false) : DE X ex W (.var i) (.Name x pos) := by
  refine ⟨_, pe_var hN hv hd hcd, fun HF H0 H al S r s Q R L h => ?_⟩
  cases q : r[i]? with
  | none => simp [evalE, q, Post] at h
  | some o =>
    cases o with
    | none => simp [evalE, q, Post] at h
    | some u =>
      simp only [evalE, q] at h
      obtain ⟨v, h1, h2⟩ := L.at_ i u q
      exact ⟨v, h1, h.now R h2⟩
theorem de_frz {i : Nat} {x : Str} {pos : Pos} (hN : X.N[i]? = some x) (hv : Vis X.env.scope x) (hd : (x == ("__debug__" : Str)) = false) (hcd : (x == ("__classdict__" : Str)) = false) : DE X ex W (.frz i) (.Name x pos) := by
  refine ⟨_, pe_var hN hv hd hcd, fun HF H0 H al S r s Q R L h => ?_⟩
  cases q : cellAt r S i with
  | none => simp [evalE, q, Post] at h
  | some o =>
    obtain ⟨n, ds⟩ := o
    simp only [evalE, q] at h
    unfold cellAt at q
    split at q
    · rename_i m q1
      split at q
      · rename_i es q2
        cases q
        obtain ⟨v, h1, a, h2, rfl⟩ := L.at_ i _ q1
        obtain ⟨H0', R', e', d'⟩ := R.freeze h2 q2
        exact ⟨_, h1, h _ H H0' al e' R' d'⟩
      · cases q
    · cases q
theorem de_int {i : Int} {j : Nat} {pos : Pos} : DE X ex W (.cst (.int i)) (.Constant (.int i) j pos) :=
  ⟨_, pe_int, fun HF H0 H al S r s Q R L h => h.now R rfl⟩
theorem de_bool {b : Bool} {j : Nat} {pos : Pos} : DE X ex W (.cst (.bool b)) (.Constant (.bool b) j pos) :=
  ⟨_, pe_bl, fun HF H0 H al S r s Q R L h => h.now R rfl⟩
theorem de_none {j : Nat} {pos : Pos} : DE X ex W (.cst .none) (.Constant .none j pos) :=
  ⟨_, pe_non, fun HF H0 H al S r s Q R L h => h.now R rfl⟩
theorem de_str {x : Str} {j : Nat} {pos : Pos} : DE X ex W (.cst (.str x)) (.Constant (.str x) j pos) :=
  ⟨_, pe_str, fun HF H0 H al S r s Q R L h => h.now R rfl⟩
/-- a module's constant -/
def GlbOk (X : Cx) (x : Str) (d : PyData) : Prop := ∃ v u, X.mg x = some u ∧ RelV v u ∧ ∀ H0, DP X.K H0 d v
theorem de_glb {x : Str} {d : PyData} {pos : Pos} (hg : Gl X x) (g : GlbOk X x d) (hd : (x == ("__debug__" : Str)) = false) : DE X ex W (.glb x d) (.Name x pos) := by
  obtain ⟨v, u, h1, h2, h3⟩ := g
  exact ⟨_, pe_glob hg h1 h2 hd, fun HF H0 H al S r s Q R L h => h.now R (h3 H0)⟩
theorem de_fnv {x : Str} {pos : Pos} (hg : Gl X x) (g : X.mg x = some (.ref (He.ga X.K x))) (hd : (x == ("__debug__" : Str)) = false) : DE X ex W (.fnv x) (.Name x pos) :=
  ⟨_, pe_glob (v := .ref (He.ga X.K x)) hg g rfl hd, fun HF H0 H al S r s Q R L h => h.now R rfl⟩

/-! ### operators -/
def Bop.op : Bop → Operator
  | .add => .Add | .sub => .Sub | .mul => .Mult | .fdiv => .FloorDiv | .mod => .Mod | .pow => .Pow
/-- what an operator's rule must do for data -/
def OpOk (X : Cx) (ex : ExK) (f : Value → Value → Sem Value) (g : PyData → PyData → Option PyData) : Prop := ∃ r, OpR X f r ∧ ∀ (W : WX) (HF H0 H : Hp) (al : List Addr) (S : Store) (s : L2.St) (Q : VK) (x y z : PyData) (v w : V),
  Rl X.K ex HF H0 H al S → RdS X.K H0 H x v → RdS X.K H0 H y w → g x y = some z → Post X.K ex W HF H0 al s (UP X.K ex) (.ok (.d z) S) Q → r v w H Q
theorem cdivW {i j : Int} (h : 0 < j) (h2 : j < 2 ^ 64) : CDivW i j := wide_div (b := 64) h (by omega) (by decide) (by decide)
theorem bop_ok (o : Bop) : OpOk X ex (binaryOp o.op) o.sem := by
  cases o with
  | add =>
    refine ⟨_, op_add.or (op_add_str.or (op_cat.or op_catA)), fun W HF H0 H al S s Q x y z v w R hx hy e h => ?_⟩
    cases x <;> cases y <;> simp only [Bop.sem] at e <;> try cases e
    · cases hx; cases hy
      exact .inl ⟨_, _, rfl, rfl, h.now R rfl⟩
    · split at e
      · rename_i hz
        cases e; cases hx; cases hy
        exact .inr (.inl ⟨_, _, rfl, rfl, hz, h.now R rfl⟩)
      · cases e
    · split at e
      · rename_i hz
        cases e
        obtain ⟨a, vs, rfl, h2, h3⟩ := hx
        obtain ⟨b, ws, rfl, k2, k3⟩ := hy
        refine .inr (.inr (.inl ⟨a, b, vs, ws, rfl, rfl, h2, k2, by rw [← h3.length, ← k3.length]; exact hz, fun p hp => h.newL R hp (h3.append k3)⟩))
      · cases e
    · split at e
      · rename_i hz
        cases e
        obtain ⟨a, vs, rfl, h2, h3⟩ := hx
        obtain ⟨b, ws, rfl, k2, k3⟩ := hy
        refine .inr (.inr (.inr ⟨a, b, vs, ws, rfl, rfl, sqT_same R.fz h2.sq, sqT_same R.fz k2.sq, by rw [← h3.length, ← k3.length]; exact hz.1, fun z => ?_, fun z1 z2 => ?_, fun _ _ p hp => h.newT R hp hz.2 (h3.append k3)⟩))
        · subst z
          have e0 := h3.length
          simp at e0
          subst e0
          exact h.now R ⟨b, ws, rfl, k2, k3⟩
        · subst z2
          have e0 := k3.length
          simp at e0
          subst e0
          rw [List.append_nil] at h
          exact h.now R ⟨a, vs, rfl, h2, h3⟩
      · cases e
  | sub =>
    refine ⟨_, op_sub, fun W HF H0 H al S s Q x y z v w R hx hy e h => ?_⟩
    cases x <;> cases y <;> simp only [Bop.sem] at e <;> try cases e
    cases hx; cases hy
    exact ⟨_, _, rfl, rfl, h.now R rfl⟩
  | mul =>
    refine ⟨_, op_mul.or op_rep, fun W HF H0 H al S s Q x y z v w R hx hy e h => ?_⟩
    cases x <;> cases y <;> simp only [Bop.sem] at e <;> try cases e
    · split at e
      · rename_i hz
        cases e; cases hx; cases hy
        refine .inl ⟨_, _, rfl, rfl, ?_, h.now R rfl⟩
        simp only [smallI, Bool.or_eq_true, Bool.and_eq_true, decide_eq_true_eq] at hz
        exact hz
      · cases e
    · split at e
      · rename_i hz
        cases e
        obtain ⟨a, vs, rfl, h2, h3⟩ := hx
        cases hy
        refine .inr ⟨a, _, vs, rfl, rfl, h2, by omega, by omega, by rw [← h3.length]; exact hz.2.2, fun p hp => h.newL R hp (h3.rep _)⟩
      · cases e
  | fdiv =>
    refine ⟨_, op_fdivW, fun W HF H0 H al S s Q x y z v w R hx hy e h => ?_⟩
    cases x <;> cases y <;> simp only [Bop.sem] at e <;> try cases e
    split at e
    · rename_i hz
      cases e; cases hx; cases hy
      exact ⟨_, _, rfl, rfl, cdivW hz.1 hz.2, h.now R rfl⟩
    · cases e
  | mod =>
    refine ⟨_, op_mod, fun W HF H0 H al S s Q x y z v w R hx hy e h => ?_⟩
    cases x <;> cases y <;> simp only [Bop.sem] at e <;> try cases e
    split at e
    · rename_i hz
      cases e; cases hx; cases hy
      exact ⟨_, _, rfl, rfl, hz, h.now R rfl⟩
    · cases e
  | pow =>
    refine ⟨_, op_pow, fun W HF H0 H al S s Q x y z v w R hx hy e h => ?_⟩
    cases x <;> cases y <;> simp only [Bop.sem] at e <;> try cases e
    split at e
    · rename_i hz
      cases e; cases hx; cases hy
      simp only [smallI, Bool.and_eq_true, decide_eq_true_eq] at hz
      exact ⟨_, _, rfl, rfl, ⟨hz.1, by omega, by omega⟩, h.now R rfl⟩
    · cases e
theorem de_bin {o : Bop} {a b : P} {x y : Expr} {pos : Pos} (ha : DE X ex W a x) (hb : DE X ex W b y) : DE X ex W (.bin o a b) (.BinOp x o.op y pos) := by
  obtain ⟨ta, pa, ja⟩ := ha
  obtain ⟨tb, pb, jb⟩ := hb
  obtain ⟨r, hr, ho⟩ := bop_ok (X := X) (ex := ex) o
  refine ⟨_, pe_op hr pa pb, fun HF H0 H al S r s Q R L h => ?_⟩
  simp only [evalE] at h
  refine ja _ _ _ _ _ _ _ _ R L (h.bind fun u S1 v H1 H01 al1 e1 R1 u1 h1 => ?_)
  refine jb _ _ _ _ _ _ _ _ R1 (L.ext e1) (h1.bind fun w S2 v2 H2 H02 al2 e2 R2 w2 h2 => ?_)
  have u2 := UP.mono e2.sub e2.pre _ _ u1
  unfold op2 at h2
  split at h2
  · rename_i dx dy q1 q2
    split at h2
    · rename_i z q3
      exact ho W _ _ _ _ _ _ _ _ _ _ _ _ R2 (rdS_of R2 u2 q1) (rdS_of R2 w2 q2) q3 h2
    · exact h2.elim
  · exact h2.elim
theorem de_neg {a : P} {x : Expr} {pos : Pos} (ha : DE X ex W a x) : DE X ex W (.neg a) (.UnaryOp .USub x pos) := by
  obtain ⟨ta, pa, ja⟩ := ha
  refine ⟨_, pe_un un_neg pa, fun HF H0 H al S r s Q R L h => ?_⟩
  simp only [evalE] at h
  refine ja _ _ _ _ _ _ _ _ R L (h.bind fun u S1 v H1 H01 al1 e1 R1 u1 h1 => ?_)
  unfold negU at h1
  split at h1
  · cases u1
    exact ⟨_, rfl, h1.now R1 rfl⟩
  · exact h1.elim

/-! ### comparisons -/
def Cop.op : Cop → CmpOp
  | .eq => .Eq | .ne => .NotEq | .lt => .Lt | .le => .LtE | .gt => .Gt | .ge => .GtE | .isin => .In | .notin => .NotIn | .is => .Is | .isnot => .IsNot
def CmpOk (X : Cx) (ex : ExK) (f : Value → Value → Sem Value) (g : PyData → PyData → Option Bool) : Prop := ∃ r, OpR X f r ∧ ∀ (HF H0 H : Hp) (al : List Addr) (S : Store) (Q : VK) (x y : PyData) (z : Bool) (v w : V),
  Rl X.K ex HF H0 H al S → Rd1 X.K H0 H x v → Rd1 X.K H0 H y w → g x y = some z → Q (.bl z) H → r v w H Q
def rEqP (K : PySem.W.Frag) (neg : Bool) : R2 := fun x y H Q => ∃ d e, Dp K H x d ∧ Dp K H y e ∧ d.plain = true ∧ e.plain = true ∧ min d.depth e.depth ≤ 64 ∧ Q (.bl (if neg then !PyData.eqv d e else PyData.eqv d e)) H
theorem op_eqP (hu : X.A.units + 64 < cLine) : OpR X (compareOp .Eq) (rEqP X.K false) := by
  intro pins s r H x y v u Q I rx ry h
  obtain ⟨d, e, hd, he, sd, se, hm, q⟩ := h
  obtain ⟨as, r1⟩ := Dp.reads I d x v hd rx
  obtain ⟨bs, r2⟩ := Dp.reads I e y u he ry
  exact SeqAt.eq_plain r1 r2 sd se (by omega) ⟨.bl _, H, I, rfl, q⟩
theorem op_neP (hu : X.A.units + 64 < cLine) : OpR X (compareOp .NotEq) (rEqP X.K true) := by
  intro pins s r H x y v u Q I rx ry h
  obtain ⟨d, e, hd, he, sd, se, hm, q⟩ := h
  obtain ⟨as, r1⟩ := Dp.reads I d x v hd rx
  obtain ⟨bs, r2⟩ := Dp.reads I e y u he ry
  exact SeqAt.ne_plain r1 r2 sd se (by omega) ⟨.bl _, H, I, rfl, q⟩
def rInP (K : PySem.W.Frag) (neg : Bool) : R2 := fun x y H Q => ∃ d ds, Dp K H x d ∧ (Dp K H y (.list ds) ∨ Dp K H y (.tuple ds)) ∧ d.plain = true ∧ PyData.plainAll ds = true ∧ min (PyData.depthAll ds) d.depth ≤ 64 ∧
  Q (.bl (if neg then !(ds.any fun z => PyData.eqv z d) else ds.any fun z => PyData.eqv z d)) H
theorem op_inP (hu : X.A.units + 65 < cLine) : OpR X (compareOp .In) (rInP X.K false) := by
  intro pins s r H x y v u Q I rx ry h
  obtain ⟨d, ds, hd, he, sd, se, hm, q⟩ := h
  obtain ⟨as, r1⟩ := Dp.reads I d x v hd rx
  rcases he with he | he
  · obtain ⟨bs, r2⟩ := Dp.reads I _ y u he ry
    exact SeqAt.in_list_data r2 r1 se sd (by omega) ⟨.bl _, H, I, rfl, q⟩
  · obtain ⟨bs, r2⟩ := Dp.reads I _ y u he ry
    exact SeqAt.in_tuple_data r2 r1 se sd (by omega) ⟨.bl _, H, I, rfl, q⟩
theorem op_notInP (hu : X.A.units + 65 < cLine) : OpR X (compareOp .NotIn) (rInP X.K true) := by
  intro pins s r H x y v u Q I rx ry h
  obtain ⟨d, ds, hd, he, sd, se, hm, q⟩ := h
  obtain ⟨as, r1⟩ := Dp.reads I d x v hd rx
  rcases he with he | he
  · obtain ⟨bs, r2⟩ := Dp.reads I _ y u he ry
    exact SeqAt.notIn_list_data r2 r1 se sd (by omega) ⟨.bl _, H, I, rfl, q⟩
  · obtain ⟨bs, r2⟩ := Dp.reads I _ y u he ry
    exact SeqAt.notIn_tuple_data r2 r1 se sd (by omega) ⟨.bl _, H, I, rfl, q⟩
theorem Rd1.dpt {K : PySem.W.Frag} {H0 H : Hp} (f : Same H0 H) {ds : List PyData} {v : V} (h : Rd1 K H0 H (.tuple ds) v) : Dp K H v (.tuple ds) := Rd1.dp f h
theorem lt_ok {op : CmpOp} {p : Int → Int → Bool} (ho : OpR X (compareOp op) (rI0 fun i j => .bl (p i j))) : CmpOk X ex (compareOp op) (ltI p) := by
  refine ⟨_, ho, fun HF H0 H al S Q x y z v w R hx hy e h => ?_⟩
  cases x <;> cases y <;> simp only [ltI] at e <;> try cases e
  cases hx; cases hy
  exact ⟨_, _, rfl, rfl, h⟩
theorem inD_cases {x y : PyData} {z : Bool} (e : inD x y = some z) : (∃ ds, (y = .list ds ∨ y = .tuple ds) ∧ min (PyData.depthAll ds) x.depth ≤ 64 ∧ z = (ds.any fun y => PyData.eqv y x)) ∨ ∃ t q, y = .str t ∧ x = .str q ∧ z = !(Builtin.Str.occurrences t q 0 t.length 1).isEmpty := by
  cases y with
  | list ds =>
    simp only [inD] at e
    split at e
    · rename_i hz
      exact .inl ⟨ds, .inl rfl, hz, (Option.some.inj e).symm⟩
    · cases e
  | tuple ds =>
    simp only [inD] at e
    split at e
    · rename_i hz
      exact .inl ⟨ds, .inr rfl, hz, (Option.some.inj e).symm⟩
    · cases e
  | str t =>
    cases x <;> simp only [inD] at e <;> try cases e
    exact .inr ⟨_, _, rfl, rfl, rfl⟩
  | _ => simp [inD] at e
theorem isD_none {x : PyData} {K : PySem.W.Frag} {H0 H : Hp} {v : V} (h : Rd1 K H0 H x v) : decide (v = V.non) = isNoneD x := by
  cases x with
  | none => cases h; rfl
  | bool b => cases h; rfl
  | int b => cases h; rfl
  | str b => cases h; rfl
  | list ds => obtain ⟨a, vs, rfl, _⟩ := h; rfl
  | tuple ds => obtain ⟨a, vs, rfl, _⟩ := h; rfl
  | dict _ => exact h.elim
theorem cop_ok (hu : X.A.units + 65 < cLine) (o : Cop) : CmpOk X ex (compareOp o.op) o.sem := by
  have eqc : ∀ {x y : PyData} {z : Bool}, eqD x y = some z → min x.depth y.depth ≤ 64 ∧ PyData.eqv x y = z := fun {x y z} e => by
    unfold eqD at e
    split at e
    · rename_i hz; exact ⟨hz, Option.some.inj e⟩
    · cases e
  cases o with
  | eq =>
    refine ⟨_, op_eqP (by omega), fun HF H0 H al S Q x y z v w R hx hy e h => ?_⟩
    obtain ⟨h1, h2⟩ := eqc e
    exact ⟨x, y, hx.dp R.fz, hy.dp R.fz, hx.plain, hy.plain, h1, by rw [h2]; exact h⟩
  | ne =>
    refine ⟨_, op_neP (by omega), fun HF H0 H al S Q x y z v w R hx hy e h => ?_⟩
    obtain ⟨b, e, hb⟩ := Option.map_eq_some_iff.mp e
    obtain ⟨h1, h2⟩ := eqc e
    exact ⟨x, y, hx.dp R.fz, hy.dp R.fz, hx.plain, hy.plain, h1, by rw [h2]; simpa [← hb] using h⟩
  | lt => exact lt_ok op_lt
  | le => exact lt_ok op_le
  | gt => exact lt_ok op_gt
  | ge => exact lt_ok op_ge
  | isin =>
    refine ⟨_, (op_inP hu).or op_in_str, fun HF H0 H al S Q x y z v w R hx hy e h => ?_⟩
    rcases inD_cases e with ⟨ds, hd, hz, rfl⟩ | ⟨t, q, rfl, rfl, rfl⟩
    · rcases hd with rfl | rfl
      · exact .inl ⟨x, ds, hx.dp R.fz, .inl (hy.dp R.fz), hx.plain, hy.plain, hz, h⟩
      · exact .inl ⟨x, ds, hx.dp R.fz, .inr (hy.dp R.fz), hx.plain, hy.plain, hz, h⟩
    · cases hx; cases hy
      exact .inr ⟨_, _, rfl, rfl, h⟩
  | notin =>
    refine ⟨_, (op_notInP hu).or op_notin_str, fun HF H0 H al S Q x y z v w R hx hy e h => ?_⟩
    obtain ⟨b, e1, hb⟩ := Option.map_eq_some_iff.mp e
    subst hb
    rcases inD_cases e1 with ⟨ds, hd, hz, rfl⟩ | ⟨t, q, rfl, rfl, rfl⟩
    · rcases hd with rfl | rfl
      · exact .inl ⟨x, ds, hx.dp R.fz, .inl (hy.dp R.fz), hx.plain, hy.plain, hz, h⟩
      · exact .inl ⟨x, ds, hx.dp R.fz, .inr (hy.dp R.fz), hx.plain, hy.plain, hz, h⟩
    · cases hx; cases hy
      exact .inr ⟨_, _, rfl, rfl, h⟩
  | is =>
    refine ⟨_, op_isN.or op_is_bl, fun HF H0 H al S Q x y z v w R hx hy e h => ?_⟩
    cases y <;> simp only [Cop.sem, isD] at e <;> try cases e
    · cases hy
      exact .inl ⟨rfl, by rw [isD_none hx]; exact h⟩
    · cases x <;> simp at e
      cases hx; cases hy
      exact .inr ⟨_, _, rfl, rfl, by rw [e]; exact h⟩
  | isnot =>
    refine ⟨_, op_notN.or op_isnot_bl, fun HF H0 H al S Q x y z v w R hx hy e h => ?_⟩
    cases y <;> simp only [Cop.sem, isD] at e <;> try cases e
    · cases hy
      exact .inl ⟨rfl, by rw [isD_none hx]; exact h⟩
    · cases x <;> simp at e
      cases hx; cases hy
      exact .inr ⟨_, _, rfl, rfl, by rw [e, Bool.not_not]; exact h⟩
theorem cmp2_ok {o : Cop} {r : R2} (ho : ∀ (HF H0 H : Hp) (al : List Addr) (S : Store) (Q : VK) (x y : PyData) (z : Bool) (v w : V), Rl X.K ex HF H0 H al S → Rd1 X.K H0 H x v → Rd1 X.K H0 H y w → o.sem x y = some z → Q (.bl z) H → r v w H Q)
    {HF H0 H : Hp} {al : List Addr} {S : Store} {s : L2.St} {Q : VK} {u w : U} {v v2 : V} (R : Rl X.K ex HF H0 H al S) (hu : UP X.K ex H0 al u v) (hw : UP X.K ex H0 al w v2) (h : Post X.K ex W HF H0 al s (UP X.K ex) (cmp2 o.sem u w S) Q) : r v v2 H Q := by
  unfold cmp2 at h
  split at h
  · rename_i dx dy q1 q2
    split at h
    · rename_i z q3
      exact ho _ _ _ _ _ _ _ _ _ _ _ R (rd_of R hu q1) (rd_of R hw q2) q3 (h.now R rfl)
    · exact h.elim
  · exact h.elim
theorem de_cmp {o : Cop} {a b : P} {x y : Expr} {pos : Pos} (hu : X.A.units + 65 < cLine) (hm : behindInMarks o.op y = false) (ha : DE X ex W a x) (hb : DE X ex W b y) : DE X ex W (.cmp o a b) (.Compare x [o.op] [y] pos) := by
  obtain ⟨ta, pa, ja⟩ := ha
  obtain ⟨tb, pb, jb⟩ := hb
  obtain ⟨r, hr, ho⟩ := cop_ok (X := X) (ex := ex) hu o
  refine ⟨_, pe_cmpR hr pa pb hm, fun HF H0 H al S r s Q R L h => ?_⟩
  simp only [evalE] at h
  refine ja _ _ _ _ _ _ _ _ R L (h.bind fun u S1 v H1 H01 al1 e1 R1 u1 h1 => ?_)
  refine jb _ _ _ _ _ _ _ _ R1 (L.ext e1) (h1.bind fun w S2 v2 H2 H02 al2 e2 R2 w2 h2 => ?_)
  exact cmp2_ok ho R2 (UP.mono e2.sub e2.pre _ _ u1) w2 h2
/-- a test from a comparison -/
theorem Post.test {K : PySem.W.Frag} {HF H0 : Hp} {al : List Addr} {s : L2.St} {Q : Bool → Hp → Prop} {r : Res U} (h : Post K ex W HF H0 al s BR (r.bind fun u S1 => lift (asB u) S1) Q) : Post K ex W HF H0 al s (UP K ex) r fun x H' => ∃ k, x = .bl k ∧ Q k H' :=
  h.bind fun u S1 v H1 H01 al1 e1 R1 u1 h1 => by
    cases q : asB u with
    | none => rw [q] at h1; exact h1.elim
    | some b =>
      rw [q] at h1
      cases u with
      | d x =>
        cases x with
        | bool c =>
          cases q
          cases u1
          exact ⟨_, rfl, h1.now R1 rfl⟩
        | _ => cases q
      | _ => cases q
theorem dt_cmp {o : Cop} {a b : P} {x y : Expr} {pos : Pos} (hu : X.A.units + 65 < cLine) (hm : behindInMarks o.op y = false) (ha : DE X ex W a x) (hb : DE X ex W b y) : DT X ex W (.cmp o a b) (.Compare x [o.op] [y] pos) := by
  obtain ⟨ta, pa, ja⟩ := ha
  obtain ⟨tb, pb, jb⟩ := hb
  obtain ⟨r, hr, ho⟩ := cop_ok (X := X) (ex := ex) hu o
  refine ⟨_, pt_cmpR hr pa pb hm, fun HF H0 H al S r s Q R L h => ?_⟩
  have h := Post.test h
  simp only [evalE] at h
  refine ja _ _ _ _ _ _ _ _ R L (h.bind fun u S1 v H1 H01 al1 e1 R1 u1 h1 => ?_)
  refine jb _ _ _ _ _ _ _ _ R1 (L.ext e1) (h1.bind fun w S2 v2 H2 H02 al2 e2 R2 w2 h2 => ?_)
  exact cmp2_ok ho R2 (UP.mono e2.sub e2.pre _ _ u1) w2 h2
/-- a test from an expression that is none of the special ones -/
theorem dt_val {p : P} {e : Expr} (h : DE X ex W p e) (he : ∀ whole, isTrue e X.env whole = (do let v ← whole; standAt e.pos; holding [v] (truthy v))) : DT X ex W p e := by
  obtain ⟨t, pt, jt⟩ := h
  exact ⟨_, pt_val pt he, fun HF H0 H al S r s Q R L h => jt _ _ _ _ _ _ _ _ R L (Post.test h)⟩
theorem cmp2_bool {o : Cop} {u w : U} {S : Store} {k : U} {S' : Store} (h : cmp2 o.sem u w S = .ok k S') : ∃ b, k = .d (.bool b) := by
  unfold cmp2 at h
  split at h
  · split at h
    · cases h; exact ⟨_, rfl⟩
    · cases h
  · cases h
theorem chn_ok {o o' : Cop} {c : P} {r r' : R2} {tc : TE} (jc : Jd X.K ex W tc (evalE c) (UP X.K ex))
    (ho : ∀ (HF H0 H : Hp) (al : List Addr) (S : Store) (Q : VK) (x y : PyData) (z : Bool) (v w : V), Rl X.K ex HF H0 H al S → Rd1 X.K H0 H x v → Rd1 X.K H0 H y w → o.sem x y = some z → Q (.bl z) H → r v w H Q)
    (ho' : ∀ (HF H0 H : Hp) (al : List Addr) (S : Store) (Q : VK) (x y : PyData) (z : Bool) (v w : V), Rl X.K ex HF H0 H al S → Rd1 X.K H0 H x v → Rd1 X.K H0 H y w → o'.sem x y = some z → Q (.bl z) H → r' v w H Q)
    {HF H0 H : Hp} {al : List Addr} {S : Store} {s : L2.St} {rho : Rho} {Q : VK} {u w : U} {v v2 : V} (R : Rl X.K ex HF H0 H al S) (L : Sl X.K ex H0 al s rho) (hu : UP X.K ex H0 al u v) (hw : UP X.K ex H0 al w v2)
    (h : Post X.K ex W HF H0 al s (UP X.K ex) ((cmp2 o.sem u w S).bind fun k S3 => (lift (asB k) S3).bind fun k S3 => if k then (evalE c rho S3).bind fun z S4 => cmp2 o'.sem w z S4 else .ok (.d (.bool false)) S3) Q) :
    r v v2 H fun z H3 => ∃ k, z = .bl k ∧ if k = true then tc s H3 (fun z H4 => r' v2 z H4 Q) else Q (.bl false) H3 := by
  refine cmp2_ok ho R hu hw (h.bind fun k S3 z H3 H03 al3 e3 R3 k3 h3 => ?_)
  cases k with
  | d x =>
    cases x with
    | bool b =>
      cases k3
      refine ⟨b, rfl, ?_⟩
      simp only [asB, lift_some, Res.ok_bind] at h3
      cases b with
      | false => exact h3.now R3 rfl
      | true =>
        simp only [if_true] at h3 ⊢
        refine jc _ _ _ _ _ _ _ _ R3 (L.ext e3) (h3.bind fun z S4 v4 H4 H04 al4 e4 R4 z4 h4 => ?_)
        exact cmp2_ok ho' R4 (UP.mono (e3.sub.trans e4.sub) (e3.pre.trans e4.pre) _ _ hw) z4 h4
    | _ => simp [asB, Post] at h3
  | _ => simp [asB, Post] at h3
theorem de_chn {o o' : Cop} {a b c : P} {x y z : Expr} {pos : Pos} (hu : X.A.units + 65 < cLine) (hm : lastMarks [o.op, o'.op] [y, z] = false) (ha : DE X ex W a x) (hb : DE X ex W b y) (hc : DE X ex W c z) :
    DE X ex W (.chn o o' a b c) (.Compare x [o.op, o'.op] [y, z] pos) := by
  obtain ⟨ta, pa, ja⟩ := ha
  obtain ⟨tb, pb, jb⟩ := hb
  obtain ⟨tc, pc, jc⟩ := hc
  obtain ⟨r, hr, ho⟩ := cop_ok (X := X) (ex := ex) hu o
  obtain ⟨r', hr', ho'⟩ := cop_ok (X := X) (ex := ex) hu o'
  refine ⟨_, pe_chain hr hr' pa pb pc hm, fun HF H0 H al S r s Q R L h => ?_⟩
  simp only [evalE] at h
  refine ja _ _ _ _ _ _ _ _ R L (h.bind fun u S1 v H1 H01 al1 e1 R1 u1 h1 => ?_)
  refine jb _ _ _ _ _ _ _ _ R1 (L.ext e1) (h1.bind fun w S2 v2 H2 H02 al2 e2 R2 w2 h2 => ?_)
  exact chn_ok jc ho ho' R2 ((L.ext e1).ext e2) (UP.mono e2.sub e2.pre _ _ u1) w2 h2
theorem dt_chn {o o' : Cop} {a b c : P} {x y z : Expr} {pos : Pos} (hu : X.A.units + 65 < cLine) (hm : lastMarks [o.op, o'.op] [y, z] = false) (ha : DE X ex W a x) (hb : DE X ex W b y) (hc : DE X ex W c z) :
    DT X ex W (.chn o o' a b c) (.Compare x [o.op, o'.op] [y, z] pos) := by
  obtain ⟨ta, pa, ja⟩ := ha
  obtain ⟨tb, pb, jb⟩ := hb
  obtain ⟨tc, pc, jc⟩ := hc
  obtain ⟨r, hr, ho⟩ := cop_ok (X := X) (ex := ex) hu o
  obtain ⟨r', hr', ho'⟩ := cop_ok (X := X) (ex := ex) hu o'
  refine ⟨_, pt_chain hr hr' pa pb pc hm, fun HF H0 H al S r s Q R L h => ?_⟩
  have h := Post.test h
  simp only [evalE] at h
  refine ja _ _ _ _ _ _ _ _ R L (h.bind fun u S1 v H1 H01 al1 e1 R1 u1 h1 => ?_)
  refine jb _ _ _ _ _ _ _ _ R1 (L.ext e1) (h1.bind fun w S2 v2 H2 H02 al2 e2 R2 w2 h2 => ?_)
  exact chn_ok jc ho ho' R2 ((L.ext e1).ext e2) (UP.mono e2.sub e2.pre _ _ u1) w2 h2
end
end PD
/-! Part D: and, or, not; calls; built-ins; indexes; displays; methods. -/
namespace PD
open PySem PySem.Spec PyProof.Rows L2

/-! ### arguments -/
def ns : Expr → Bool
  | .Starred _ _ => false
  | _ => true
theorem star_cons {e : Expr} {es : List Expr} {env : Env} (h : ns e = true) : starEach (e :: es) env = (false, eval e env) :: starEach es env := by
  cases e <;> first | rfl | cases h
theorem star_any {pos : Pos} {env : Env} : ∀ {es : List Expr}, es.all ns = true → (backTo pos (starEach es env)).any (·.1) = false
  | [], _ => rfl
  | e :: es, h => by
    simp only [List.all_cons, Bool.and_eq_true] at h
    rw [star_cons h.1]
    simpa [backTo] using star_any (pos := pos) (env := env) h.2
theorem star_all {pos : Pos} {env : Env} : ∀ {es : List Expr}, es.all ns = true → (backTo pos (starEach es env)).all (fun x => !x.1) = true
  | [], _ => rfl
  | e :: es, h => by
    simp only [List.all_cons, Bool.and_eq_true] at h
    rw [star_cons h.1]
    simpa [backTo] using star_all (pos := pos) (env := env) h.2
def baseOk : Expr → Bool
  | .Call (.Name _ _) [] [] _ => false
  | _ => true
theorem base_ok {o : Expr} {name : Str} {env : Env} {w : Sem Value} (h : baseOk o = true) : attributeBase o name env w = w := by
  unfold attributeBase
  split
  · cases h
  · rfl
section
variable {X : Cx} {ex : ExK} {W : WX}
theorem da_nil : DA X ex W .nil [] := ⟨_, pa_nil, fun HF H0 H al S r s Q R L h => h.now R rfl⟩
theorem da_cons {p : P} {ps : Ps} {e : Expr} {es : List Expr} (hn : ns e = true) (h1 : DE X ex W p e) (h2 : DA X ex W ps es) : DA X ex W (.cons p ps) (e :: es) := by
  obtain ⟨t, pt, jt⟩ := h1
  obtain ⟨t2, pt2, jt2⟩ := h2
  refine ⟨_, pa_cons pt pt2 (star_cons hn), fun HF H0 H al S r s Q R L h => ?_⟩
  simp only [evalEs] at h
  refine jt _ _ _ _ _ _ _ _ R L (h.bind fun u S1 v H1 H01 al1 e1 R1 u1 h1 => ?_)
  refine jt2 _ _ _ _ _ _ _ _ R1 (L.ext e1) (h1.bind fun us S2 vs H2 H02 al2 e2 R2 us2 h2 => ?_)
  exact h2.now R2 ⟨v, vs, rfl, UP.mono e2.sub e2.pre _ _ u1, us2⟩

/-! ### not, if else -/
theorem lift_case {K : PySem.W.Frag} {HF H0 : Hp} {al : List Addr} {S : Store} {s : L2.St} {α β : Type} {rel : Hp → List Addr → α → β → Prop} {Q : β → Hp → Prop} {u : U} {v : V} {g : Bool → Store → Res α} (hu : UP K ex H0 al u v)
    (h : Post K ex W HF H0 al s rel ((lift (asB u) S).bind g) Q) : ∃ b, v = .bl b ∧ u = .d (.bool b) ∧ Post K ex W HF H0 al s rel (g b S) Q := by
  cases u with
  | d x =>
    cases x with
    | bool b => cases hu; exact ⟨b, rfl, rfl, h⟩
    | _ => exact h.elim
  | _ => exact h.elim
theorem de_not {a : P} {x : Expr} {pos : Pos} (ha : DE X ex W a x) : DE X ex W (.nt a) (.UnaryOp .Not x pos) := by
  obtain ⟨t, pt, jt⟩ := ha
  refine ⟨_, pe_not pt, fun HF H0 H al S r s Q R L h => ?_⟩
  simp only [evalE] at h
  refine jt _ _ _ _ _ _ _ _ R L (h.bind fun u S1 v H1 H01 al1 e1 R1 u1 h1 => ?_)
  obtain ⟨b, rfl, rfl, h2⟩ := lift_case u1 h1
  exact ⟨b, rfl, h2.now R1 rfl⟩
theorem dt_not {a : P} {x : Expr} {pos : Pos} (ha : DT X ex W a x) : DT X ex W (.nt a) (.UnaryOp .Not x pos) := by
  obtain ⟨t, pt, jt⟩ := ha
  refine ⟨_, pt_not pt, fun HF H0 H al S r s Q R L h => ?_⟩
  refine jt _ _ _ _ _ _ _ _ R L ?_
  unfold evalT at h ⊢
  simp only [evalE] at h
  cases q : evalE a r S with
  | ok u S1 =>
    rw [q] at h
    simp only [Res.ok_bind] at h ⊢
    cases q2 : asB u with
    | none => rw [q2] at h; exact h.elim
    | some b =>
      rw [q2] at h
      simp only [lift_some, Res.ok_bind] at h ⊢
      intro c H' H0' al' e R' hc
      rw [show c = b from hc]
      exact h (!b) H' H0' al' e R' rfl
  | exc c S1 => rw [q] at h; exact h
  | bad => rw [q] at h; exact h
theorem de_ife {c a b : P} {x y z : Expr} {pos : Pos} (hc : DT X ex W c x) (ha : DE X ex W a y) (hb : DE X ex W b z) : DE X ex W (.ife c a b) (.IfExp x y z pos) := by
  obtain ⟨tc, pc, jc⟩ := hc
  obtain ⟨ta, pa, ja⟩ := ha
  obtain ⟨tb, pb, jb⟩ := hb
  refine ⟨_, pe_ifExp pc pa pb, fun HF H0 H al S r s Q R L h => ?_⟩
  simp only [evalE] at h
  have h' : Post X.K ex W HF H0 al s (UP X.K ex) ((evalT c r S).bind fun k S2 => if k then evalE a r S2 else evalE b r S2) Q := by
    unfold evalT
    cases q : evalE c r S with
    | ok u S1 => rw [q] at h; exact h
    | exc c S1 => rw [q] at h; exact h
    | bad => rw [q] at h; exact h
  refine jc _ _ _ _ _ _ _ _ R L (h'.bind fun k S1 v H1 H01 al1 e1 R1 u1 h1 => ?_)
  rw [show v = k from u1]
  cases k with
  | true => exact ja _ _ _ _ _ _ _ _ R1 (L.ext e1) h1
  | false => exact jb _ _ _ _ _ _ _ _ R1 (L.ext e1) h1

theorem dt_ife {c a b : P} {x y z : Expr} {pos : Pos} (hc : DT X ex W c x) (ha : DT X ex W a y) (hb : DT X ex W b z) : DT X ex W (.ife c a b) (.IfExp x y z pos) := by
  obtain ⟨tc, pc, jc⟩ := hc
  obtain ⟨ta, pa, ja⟩ := ha
  obtain ⟨tb, pb, jb⟩ := hb
  refine ⟨fun s H Q => tc s H fun k H1 => if k = true then ta s H1 Q else tb s H1 Q, ⟨fun pins s r H Q I h => ?_⟩, fun HF H0 H al S r s Q R L h => ?_⟩
  · show wpAny (model X.prog X.w) X.A (do if ← isTrue x X.env (eval x X.env) then isTrue y X.env (eval y X.env) else isTrue z X.env (eval z X.env)) _ _ _
    refine wpAny_bind (thn (pc.run pins s r H _ I h) fun k s1 ⟨H1, I1, q1⟩ => ?_)
    cases k with
    | true => exact pa.run pins s1 r H1 Q I1 q1
    | false => exact pb.run pins s1 r H1 Q I1 q1
  · have h' : Post X.K ex W HF H0 al s BR ((evalT c r S).bind fun k S2 => if k then evalT a r S2 else evalT b r S2) Q := by
      unfold evalT at h
      simp only [evalE] at h
      unfold evalT
      cases q : evalE c r S with
      | ok u S1 =>
        rw [q] at h
        simp only [Res.ok_bind] at h ⊢
        cases q2 : asB u with
        | none => rw [q2] at h; exact h
        | some k =>
          rw [q2] at h
          cases k <;> exact h
      | exc c S1 => rw [q] at h; exact h
      | bad => rw [q] at h; exact h
    refine jc _ _ _ _ _ _ _ _ R L (h'.bind fun k S1 v H1 H01 al1 e1 R1 u1 h1 => ?_)
    rw [show v = k from u1]
    cases k with
    | true => exact ja _ _ _ _ _ _ _ _ R1 (L.ext e1) h1
    | false => exact jb _ _ _ _ _ _ _ _ R1 (L.ext e1) h1

/-! ### and, or -/
def bo (an : Bool) : BoolOp := if an then .And else .Or
/-- as a value -/
def DB (X : Cx) (ex : ExK) (W : WX) (an : Bool) (ps : Ps) (es : List Expr) (pos : Pos) : Prop := ∃ t, PE X (.BoolOp (bo an) es pos) t ∧ Jd X.K ex W t (evalB an ps) (UP X.K ex)
theorem db_one {an : Bool} {p : P} {e : Expr} {pos : Pos} (h : DE X ex W p e) : DB X ex W an (.cons p .nil) [e] pos := by
  obtain ⟨t, pt, jt⟩ := h
  refine ⟨_, pe_one pt, fun HF H0 H al S r s Q R L h => ?_⟩
  simp only [evalB] at h
  refine jt _ _ _ _ _ _ _ _ R L (h.bind fun u S1 v H1 H01 al1 e1 R1 u1 h1 => ?_)
  obtain ⟨b, rfl, rfl, h2⟩ := lift_case u1 h1
  exact h2.now R1 rfl
theorem db_cons {an : Bool} {p q : P} {ps : Ps} {e f : Expr} {es : List Expr} {pos : Pos} (h1 : DE X ex W p e) (h2 : DB X ex W an (.cons q ps) (f :: es) pos) : DB X ex W an (.cons p (.cons q ps)) (e :: f :: es) pos := by
  obtain ⟨t, pt, jt⟩ := h1
  obtain ⟨t2, pt2, jt2⟩ := h2
  cases an with
  | true =>
    refine ⟨_, pe_and pt pt2, fun HF H0 H al S r s Q R L h => ?_⟩
    rw [evalB] at h
    refine jt _ _ _ _ _ _ _ _ R L (h.bind fun u S1 v H1 H01 al1 e1 R1 u1 h1 => ?_)
    obtain ⟨b, rfl, rfl, h2⟩ := lift_case u1 h1
    refine ⟨b, rfl, ?_⟩
    cases b with
    | true => exact jt2 _ _ _ _ _ _ _ _ R1 (L.ext e1) h2
    | false => exact h2.now R1 rfl
    intro z; cases z
  | false =>
    refine ⟨_, pe_or pt pt2, fun HF H0 H al S r s Q R L h => ?_⟩
    rw [evalB] at h
    refine jt _ _ _ _ _ _ _ _ R L (h.bind fun u S1 v H1 H01 al1 e1 R1 u1 h1 => ?_)
    obtain ⟨b, rfl, rfl, h2⟩ := lift_case u1 h1
    refine ⟨b, rfl, ?_⟩
    cases b with
    | true => exact h2.now R1 rfl
    | false => exact jt2 _ _ _ _ _ _ _ _ R1 (L.ext e1) h2
    intro z; cases z
/-- as a test -/
noncomputable def evalBT (an : Bool) (ps : Ps) (r : Rho) (S : Store) : Res Bool := (evalB an ps r S).bind fun u S1 => lift (asB u) S1
def DTB (X : Cx) (ex : ExK) (W : WX) (an : Bool) (ps : Ps) (es : List Expr) (pos : Pos) : Prop := ∃ t, PW X (.BoolOp (bo an) es pos) t ∧ Jd X.K ex W t (evalBT an ps) BR
theorem evalT_case {p : P} {r : Rho} {S : Store} {α : Type} (g : Bool → Store → Res α) : ((evalE p r S).bind fun u S1 => (lift (asB u) S1).bind g) = (evalT p r S).bind g := by
  unfold evalT
  cases evalE p r S <;> rfl
theorem dtb_one {an : Bool} {p : P} {e : Expr} {pos : Pos} (h : DT X ex W p e) : DTB X ex W an (.cons p .nil) [e] pos := by
  obtain ⟨t, pt, jt⟩ := h
  have key : ∀ r S, evalBT an (.cons p .nil) r S = evalT p r S := fun r S => by
    unfold evalBT evalT
    simp only [evalB]
    cases evalE p r S with
    | ok u S1 =>
      simp only [Res.ok_bind]
      cases asB u <;> rfl
    | exc c S1 => rfl
    | bad => rfl
  cases an with
  | true => exact ⟨_, pw_and1 pt, fun HF H0 H al S r s Q R L h => jt _ _ _ _ _ _ _ _ R L (by rw [← key]; exact h)⟩
  | false => exact ⟨_, pw_or1 pt, fun HF H0 H al S r s Q R L h => jt _ _ _ _ _ _ _ _ R L (by rw [← key]; exact h)⟩
theorem dtb_cons {an : Bool} {p q : P} {ps : Ps} {e f : Expr} {es : List Expr} {pos : Pos} (h1 : DT X ex W p e) (h2 : DTB X ex W an (.cons q ps) (f :: es) pos) : DTB X ex W an (.cons p (.cons q ps)) (e :: f :: es) pos := by
  obtain ⟨t, pt, jt⟩ := h1
  obtain ⟨t2, pt2, jt2⟩ := h2
  have key : ∀ r S, evalBT an (.cons p (.cons q ps)) r S = (evalT p r S).bind fun k S2 => if k == an then evalBT an (.cons q ps) r S2 else .ok k S2 := fun r S => by
    unfold evalBT evalT
    rw [evalB]
    cases evalE p r S with
    | ok u S1 =>
      simp only [Res.ok_bind]
      cases asB u with
      | none => rfl
      | some k =>
        simp only [lift_some, Res.ok_bind]
        by_cases hk : (k == an) = true
        · rw [if_pos hk, if_pos hk]
        · rw [if_neg hk, if_neg hk]; rfl
    | exc c S1 => rfl
    | bad => rfl
    intro z; cases z
  cases an with
  | true =>
    refine ⟨_, pw_and pt pt2, fun HF H0 H al S r s Q R L h => ?_⟩
    rw [key] at h
    refine jt _ _ _ _ _ _ _ _ R L (h.bind fun k S1 v H1 H01 al1 e1 R1 u1 h1 => ?_)
    rw [show v = k from u1]
    cases k with
    | true => exact jt2 _ _ _ _ _ _ _ _ R1 (L.ext e1) h1
    | false => exact h1.now R1 rfl
  | false =>
    refine ⟨_, pw_or pt pt2, fun HF H0 H al S r s Q R L h => ?_⟩
    rw [key] at h
    refine jt _ _ _ _ _ _ _ _ R L (h.bind fun k S1 v H1 H01 al1 e1 R1 u1 h1 => ?_)
    rw [show v = k from u1]
    cases k with
    | true => exact h1.now R1 rfl
    | false => exact jt2 _ _ _ _ _ _ _ _ R1 (L.ext e1) h1
theorem db_de {an : Bool} {ps : Ps} {es : List Expr} {pos : Pos} (h : DB X ex W an ps es pos) : DE X ex W (.bop an ps) (.BoolOp (bo an) es pos) := by
  obtain ⟨t, pt, jt⟩ := h
  exact ⟨t, pt, fun HF H0 H al S r s Q R L h => jt _ _ _ _ _ _ _ _ R L (by simpa only [evalE] using h)⟩
theorem dtb_dt {an : Bool} {ps : Ps} {es : List Expr} {pos : Pos} (h : DTB X ex W an ps es pos) : DT X ex W (.bop an ps) (.BoolOp (bo an) es pos) := by
  obtain ⟨t, pt, jt⟩ := h
  refine ⟨t, pt.pt, fun HF H0 H al S r s Q R L h => jt _ _ _ _ _ _ _ _ R L ?_⟩
  unfold evalT at h
  unfold evalBT
  simpa only [evalE] using h

/-! ### calls of defs -/
def spP (K : PySem.W.Frag) (n : Nat) (m : List U → R) : Sp := fun vs H Q E => vs.length = n ∧ ∃ us H0, Same H0 H ∧ UPs K (fun _ _ => False) H0 [] us vs ∧ match m us with
  | .ok x => ∀ v H' H0', Same H H' → Same H0 H0' → (∀ b, H b ≠ none → H0' b = H0 b) → Same H0' H' → DP K H0' x v → Q v H'
  | .exc c => ∀ H', Same H H' → E (.ref (He.ga K c)) none H'
  | .bad => False
def Good (X : Cx) (k : Nat) (fe : FE) : Prop := ∃ f fd, X.mg fe.name = some (.ref f) ∧ PySem.W.keepIn X.K (.ref f) = true ∧ Binds X.K fd fe.ps [] ∧ FnOk X.prog X.w X.K X.mg X.base (L2.CX X.prog X.w) k f fd fe.ps (spP X.K fe.ps.length fe.m)
theorem callU_ok {fe : FE} {HF H0 H : Hp} {al : List Addr} {S : Store} {s : L2.St} {Q : VK} {us : List U} {vs : List V} (R : Rl X.K ex HF H0 H al S) (hu : UPs X.K ex H0 al us vs)
    (h : Post X.K ex W HF H0 al s (UP X.K ex) (callU fe us S) Q) : spP X.K fe.ps.length fe.m vs H Q (fun cls d H' => W cls d s H') := by
  unfold callU at h
  split at h
  · rename_i hc
    simp only [Bool.and_eq_true, beq_iff_eq] at hc
    refine ⟨by rw [← hu.length]; exact hc.1, us, H0, R.fz, (hu.closed hc.2).exAny hc.2, ?_⟩
    cases q : fe.m us with
    | ok x =>
      rw [q] at h
      intro v H' H0' s1 s0 n0 f0 d
      by_cases hT : NT H0
      · obtain ⟨R', e'⟩ := R.grow (H0' := noT H0') s1 (fun b x e => noT_some (s0 b x e) fun ps z => hT b ps (by rw [e, z])) (fun b hb => noT_eq (n0 b hb) hT) (fun b x e => f0 b x (noT_sub e)) fun _ => nt_noT _
        exact h v H' _ al e' R' (DP.noT x v d)
      · obtain ⟨R', e'⟩ := R.grow s1 s0 n0 f0 fun z => (hT z).elim
        exact h v H' H0' al e' R' d
    | exc c =>
      rw [q] at h
      intro H' s1
      obtain ⟨R', e'⟩ := R.grow s1 (Same.refl _) (fun _ _ => rfl) (R.fz.trans s1) fun z => z
      exact h H' H0 al e' R'
    | bad => rw [q] at h; exact h
  · exact h.elim
theorem de_call {k : Nat} {fe : FE} {ps : Ps} {e : Expr} {es : List Expr} {p pos : Pos} (G : Good X k fe) (hr : Room k X.A) (hg : Gl X fe.name) (hdb : (fe.name == ("__debug__" : Str)) = false) (tk : Takes X W) (hn : (e :: es).all ns = true) (ha : DA X ex W ps (e :: es)) :
    DE X ex W (.call fe ps) (.Call (.Name fe.name p) (e :: es) [] pos) := by
  obtain ⟨f, fd, hm, hk, hb, F⟩ := G
  obtain ⟨t, pt, jt⟩ := ha
  simp only [List.all_cons, Bool.and_eq_true] at hn
  refine ⟨_, pe_callSD (E := fun s cls d H => W cls d s H) F hr hg hm hk hb .nil (fun s => passAt tk s) pt hdb (star_cons hn.1) (star_any hn.2), fun HF H0 H al S r s Q R L h => ?_⟩
  simp only [evalE] at h
  refine jt _ _ _ _ _ _ _ _ R L (h.bind fun us S1 vs H1 H01 al1 e1 R1 u1 h1 => ?_)
  rw [List.append_nil]
  exact callU_ok R1 u1 h1
theorem de_call0 {k : Nat} {fe : FE} {p pos : Pos} (G : Good X k fe) (hr : Room k X.A) (hg : Gl X fe.name) (hdb : (fe.name == ("__debug__" : Str)) = false) :
    DE X ex W (.call0 fe) (.Call (.Name fe.name p) [] [] pos) := by
  obtain ⟨f, fd, hm, hk, hb, F⟩ := G
  refine ⟨_, pe_call0 (E := E0) F hr hg hm hk hb .nil passL hdb, fun HF H0 H al S r s Q R L h => ?_⟩
  simp only [evalE] at h
  show spP X.K fe.ps.length fe.m [] H Q _
  refine callU_ok (W := fun _ _ _ _ => False) (s := s) (us := []) R rfl ?_
  cases q : callU fe [] S with
  | ok u S' =>
    rw [q] at h
    exact h
  | exc c S' => rw [q] at h; exact h.elim
  | bad => rw [q] at h; exact h.elim

/-! ### built-ins -/
/-- the module leaves these names alone, and the def too -/
def BltN (X : Cx) (x : Str) : Prop := Gl X x ∧ X.mg x = none
def Blt.ok (X : Cx) (ex : ExK) (f : Value) (b : Blt) : Prop := ∃ r, CallR X f r ∧ ∀ (W : WX) (HF H0 H : Hp) (al : List Addr) (S : Store) (s : L2.St) (Q : VK) (xs : List PyData) (z : PyData) (vs : List V),
  Rl X.K ex HF H0 H al S → Rd1s X.K H0 H xs vs → b.sem xs = some z → Post X.K ex W HF H0 al s (UP X.K ex) (.ok (.d z) S) Q → r vs H Q
theorem bltU_ok {f : Value} {b : Blt} (hb : b.ok X ex f) : ∃ r, CallR X f r ∧ ∀ (W : WX) (HF H0 H : Hp) (al : List Addr) (S : Store) (s : L2.St) (Q : VK) (us : List U) (vs : List V),
    Rl X.K ex HF H0 H al S → UPs X.K ex H0 al us vs → Post X.K ex W HF H0 al s (UP X.K ex) (bltU b us S) Q → r vs H Q := by
  obtain ⟨r, hr, ho⟩ := hb
  refine ⟨r, hr, fun W HF H0 H al S s Q us vs R hu h => ?_⟩
  unfold bltU at h
  split at h
  · rename_i xs q1
    split at h
    · rename_i z q2
      exact ho W _ _ _ _ _ _ _ _ _ _ R (rds_of R hu q1) q2 h
    · exact h.elim
  · exact h.elim
theorem Rd1s.one {K : PySem.W.Frag} {H0 H : Hp} {x : PyData} {vs : List V} (h : Rd1s K H0 H [x] vs) : ∃ v, vs = [v] ∧ Rd1 K H0 H x v := by
  obtain ⟨v, r, h1, h2, h3⟩ := h
  cases h3
  exact ⟨v, h1, h2⟩
theorem Rd1s.two {K : PySem.W.Frag} {H0 H : Hp} {x y : PyData} {vs : List V} (h : Rd1s K H0 H [x, y] vs) : ∃ v w, vs = [v, w] ∧ Rd1 K H0 H x v ∧ Rd1 K H0 H y w := by
  obtain ⟨v, r, h1, h2, w, r2, h3, h4, h5⟩ := h
  cases h5; cases h3
  exact ⟨v, w, h1, h2, h4⟩
theorem len_ok : Blt.ok X ex (.builtin "len") .len := by
  refine ⟨_, call_len, fun W HF H0 H al S s Q xs z vs R hx e h => ?_⟩
  match xs, e with
  | [.list ds], e =>
    cases e
    obtain ⟨v, rfl, a, ws, rfl, h2, h3⟩ := hx.one
    exact ⟨_, ds.length, rfl, .inl ⟨ws, h2, by rw [h3.length]⟩, h.now R rfl⟩
  | [.tuple ds], e =>
    cases e
    obtain ⟨v, rfl, a, ws, rfl, h2, h3⟩ := hx.one
    exact ⟨_, ds.length, rfl, .inr ⟨ws, sqT_same R.fz h2.sq, by rw [h3.length]⟩, h.now R rfl⟩
  | [.str y], e =>
    simp only [Blt.sem] at e
    split at e
    · rename_i hz
      cases e
      obtain ⟨v, rfl, rfl⟩ := hx.one
      exact ⟨_, y.length, rfl, ⟨hz, rfl⟩, h.now R rfl⟩
    · cases e
theorem max2_ok (hc : X.calm = true) : Blt.ok X ex (.builtin "max") .max2 := by
  refine ⟨_, call_max2 hc, fun W HF H0 H al S s Q xs z vs R hx e h => ?_⟩
  match xs, e with
  | [.int i, .int j], e =>
    cases e
    obtain ⟨v, w, rfl, rfl, rfl⟩ := hx.two
    exact ⟨i, j, rfl, h.now R rfl⟩
theorem min2_ok (hc : X.calm = true) : Blt.ok X ex (.builtin "min") .min2 := by
  refine ⟨_, call_min2 hc, fun W HF H0 H al S s Q xs z vs R hx e h => ?_⟩
  match xs, e with
  | [.int i, .int j], e =>
    cases e
    obtain ⟨v, w, rfl, rfl, rfl⟩ := hx.two
    exact ⟨i, j, rfl, h.now R rfl⟩
theorem maxI_spec : ∀ {ns : List Int}, ns ≠ [] → maxI ns ∈ ns ∧ ∀ y ∈ ns, y ≤ maxI ns
  | [], h => absurd rfl h
  | [x], _ => by simp [maxI]
  | x :: y :: r, _ => by
    obtain ⟨h1, h2⟩ := maxI_spec (ns := y :: r) (by simp)
    have e : maxI (x :: y :: r) = max x (maxI (y :: r)) := rfl
    rw [e]
    refine ⟨?_, fun z hz => ?_⟩
    · rcases Int.le_total x (maxI (y :: r)) with q | q
      · rw [Int.max_eq_right q]; exact List.mem_cons_of_mem _ h1
      · rw [Int.max_eq_left q]; exact List.mem_cons_self
    · rcases List.mem_cons.mp hz with rfl | hz
      · exact Int.le_max_left _ _
      · exact Int.le_trans (h2 z hz) (Int.le_max_right _ _)
theorem maxL_ok (hc : X.calm = true) : Blt.ok X ex (.builtin "max") .maxL := by
  refine ⟨_, cr_max hc, fun W HF H0 H al S s Q xs z vs R hx e h => ?_⟩
  match xs, e with
  | [.list ds], e =>
    simp only [Blt.sem] at e
    cases q : ints? ds with
    | none => rw [q] at e; cases e
    | some ns =>
      rw [q] at e
      simp only [Option.bind_some] at e
      split at e
      · cases e
      · rename_i hne
        cases e
        obtain ⟨v, rfl, a, ws, rfl, h2, h3⟩ := hx.one
        obtain ⟨rfl, rfl⟩ := h3.of_ints q
        obtain ⟨m1, m2⟩ := maxI_spec hne
        refine ⟨a, ns, rfl, h2, List.length_pos_iff.mpr hne, fun m hm hy => ?_⟩
        have em : m = maxI ns := Int.le_antisymm (m2 m hm) (hy _ m1)
        rw [em]
        exact h.now R rfl
theorem abs_ok : Blt.ok X ex (.builtin "abs") .abs := by
  refine ⟨_, call_abs, fun W HF H0 H al S s Q xs z vs R hx e h => ?_⟩
  match xs, e with
  | [.int i], e =>
    cases e
    obtain ⟨v, rfl, rfl⟩ := hx.one
    exact ⟨i, rfl, h.now R rfl⟩
theorem list_ok : Blt.ok X ex (.type "list") .list := by
  refine ⟨_, call_list_of, fun W HF H0 H al S s Q xs z vs R hx e h => ?_⟩
  match xs, e with
  | [.list ds], e =>
    cases e
    obtain ⟨v, rfl, a, ws, rfl, h2, h3⟩ := hx.one
    exact ⟨a, ws, rfl, .inl h2, fun l hl => h.newL R hl h3⟩
  | [.tuple ds], e =>
    cases e
    obtain ⟨v, rfl, a, ws, rfl, h2, h3⟩ := hx.one
    exact ⟨a, ws, rfl, .inr (sqT_same R.fz h2.sq), fun l hl => h.newL R hl h3⟩
/-- tuple(x): the new object is known -/
theorem call_tupF : CallR X (.type "tuple") (fun xs H Q => ∃ p ys, xs = [.ref p] ∧ ((SqL X.K H p ys ∧ ∀ (l : Addr) (o : Obj), H l = none → o.cls = .type "tuple" → o.dict = none → Q (.ref l) (upd H l (.frz o (.tup ys)))) ∨ (SqT X.K H p ys ∧ Q (.ref p) H))) := by
  intro pins s σ H xs us Q I r h
  obtain ⟨p, ys, rfl, h⟩ := h
  obtain ⟨u, rfl, rx⟩ := vals1 r
  cases rx
  rcases h with ⟨hq, q⟩ | ⟨hq, q⟩
  · obtain ⟨its, r', pl, hz⟩ := I.list hq
    refine call_tuple_list pl.isList (fun h' kp => ?_) (by rw [List.size_toArray, ← r'.length]; exact hz)
    have J : Inv X pins σ H { s with heap := h' } := I.kept (t' := s.toks) kp
    have e : (h'.push { cls := .type "tuple", data := .seq its.toArray }).get? h'.objs.size = some { cls := .type "tuple", data := .seq its.toArray } := Heap.get?_push_size _ rfl
    exact ⟨.ref h'.objs.size, _, J.laid (t' := s.toks) (fun b o z => Heap.get?_push_of_some _ z) (Nat.le_refl _)
      (show ObjOk X.prog X.w _ _ _ (.frz { cls := .type "tuple", data := .seq its.toArray } (.tup ys)) from ⟨e, hz, its, r', ⟨_, e, rfl, _, rfl⟩⟩), rfl, q _ _ (J.hok.fresh (Nat.le_refl _)) rfl rfl⟩
  · obtain ⟨its, r', pl, hz⟩ := I.tuple hq
    exact call_tuple_same pl ⟨.ref p, H, I, rfl, q⟩
theorem tuple_ok : Blt.ok X ex (.type "tuple") .tuple := by
  refine ⟨_, call_tupF, fun W HF H0 H al S s Q xs z vs R hx e h => ?_⟩
  match xs, e with
  | [.list ds], e =>
    cases e
    obtain ⟨v, rfl, a, ws, rfl, h2, h3⟩ := hx.one
    exact ⟨a, ws, rfl, .inl ⟨h2, fun l o hl hc ho => h.newTF R hl hc ho h3⟩⟩
  | [.tuple ds], e =>
    cases e
    obtain ⟨v, rfl, a, ws, rfl, h2, h3⟩ := hx.one
    exact ⟨a, ws, rfl, .inr ⟨sqT_same R.fz h2.sq, h.now R ⟨a, ws, rfl, h2, h3⟩⟩⟩
theorem all_ok (hc : X.calm = true) : Blt.ok X ex (.builtin "all") .all := by
  refine ⟨_, cr_all hc, fun W HF H0 H al S s Q xs z vs R hx e h => ?_⟩
  match xs, e with
  | [.list ds], e =>
    obtain ⟨bs, q, rfl⟩ := Option.map_eq_some_iff.mp e
    obtain ⟨v, rfl, a, ws, rfl, h2, h3⟩ := hx.one
    obtain ⟨rfl, rfl⟩ := h3.of_bools q
    exact ⟨a, bs, rfl, h2, h.now R rfl⟩
theorem any_ok (hc : X.calm = true) : Blt.ok X ex (.builtin "any") .any := by
  refine ⟨_, cr_any hc, fun W HF H0 H al S s Q xs z vs R hx e h => ?_⟩
  match xs, e with
  | [.list ds], e =>
    obtain ⟨bs, q, rfl⟩ := Option.map_eq_some_iff.mp e
    obtain ⟨v, rfl, a, ws, rfl, h2, h3⟩ := hx.one
    obtain ⟨rfl, rfl⟩ := h3.of_bools q
    exact ⟨a, bs, rfl, h2, h.now R rfl⟩
theorem log2_small {n : Nat} (h : n < 1000000) : n.log2 < 1920 := by
  by_cases h0 : n = 0
  · subst h0; decide
  · rw [Nat.log2_lt h0]
    exact Nat.lt_of_lt_of_le h (Nat.le_trans (by decide : 1000000 ≤ 2 ^ 20) (Nat.pow_le_pow_right (by decide) (by decide)))
theorem str_ok : Blt.ok X ex (.type "str") .str := by
  refine ⟨_, call_str_int, fun W HF H0 H al S s Q xs z vs R hx e h => ?_⟩
  match xs, e with
  | [.int i], e =>
    simp only [Blt.sem] at e
    split at e
    · rename_i hz
      cases e
      obtain ⟨v, rfl, rfl⟩ := hx.one
      exact ⟨i, rfl, log2_small hz, h.now R rfl⟩
    · cases e
theorem de_blt {b : Blt} {id : String} {x : Str} {ps : Ps} {e : Expr} {es : List Expr} {p pos : Pos} (hb : b.ok X ex (.builtin id)) (hx : BltN X x) (hv : bootBuiltins x = some (.builtin id)) (hnm : x ≠ "__name__") (hdb : (x == ("__debug__" : Str)) = false)
    (hn : (e :: es).all ns = true) (ha : DA X ex W ps (e :: es)) : DE X ex W (.blt b ps) (.Call (.Name x p) (e :: es) [] pos) := by
  obtain ⟨t, pt, jt⟩ := ha
  obtain ⟨r, hr, ho⟩ := bltU_ok hb
  simp only [List.all_cons, Bool.and_eq_true] at hn
  refine ⟨_, pe_callB hr hx.1 hx.2 hv pt hnm hdb (star_cons hn.1) (star_any hn.2), fun HF H0 H al S r s Q R L h => ?_⟩
  simp only [evalE] at h
  exact jt _ _ _ _ _ _ _ _ R L (h.bind fun us S1 vs H1 H01 al1 e1 R1 u1 h1 => ho W _ _ _ _ _ _ _ _ _ R1 u1 h1)
theorem de_bltT {b : Blt} {id : String} {x : Str} {ps : Ps} {e : Expr} {es : List Expr} {p pos : Pos} (hb : b.ok X ex (.type id)) (hx : BltN X x) (hv : bootBuiltins x = some (.type id)) (hnm : x ≠ "__name__") (hdb : (x == ("__debug__" : Str)) = false)
    (hn : (e :: es).all ns = true) (ha : DA X ex W ps (e :: es)) : DE X ex W (.blt b ps) (.Call (.Name x p) (e :: es) [] pos) := by
  obtain ⟨t, pt, jt⟩ := ha
  obtain ⟨r, hr, ho⟩ := bltU_ok hb
  simp only [List.all_cons, Bool.and_eq_true] at hn
  refine ⟨_, pe_callTy hr hx.1 hx.2 hv pt hnm hdb (star_cons hn.1) (star_any hn.2), fun HF H0 H al S r s Q R L h => ?_⟩
  simp only [evalE] at h
  exact jt _ _ _ _ _ _ _ _ R L (h.bind fun us S1 vs H1 H01 al1 e1 R1 u1 h1 => ho W _ _ _ _ _ _ _ _ _ R1 u1 h1)
/-! isinstance -/
def Ty.of : PyData → String
  | .none => "NoneType" | .bool _ => "bool" | .int _ => "int" | .str _ => "str" | .list _ => "list" | .tuple _ => "tuple" | .dict _ => "dict"
theorem tyX_of {K : PySem.W.Frag} {H0 H : Hp} (f : Same H0 H) {x : PyData} {v : V} (h : Rd1 K H0 H x v) : TyX K H v (.type (Ty.of x)) := by
  cases x with
  | none => cases h; exact .base .non
  | bool b => cases h; exact .base (.bl b)
  | int b => cases h; exact .base (.int b)
  | str b => cases h; exact .base (.str b)
  | list ds =>
    obtain ⟨a, vs, rfl, h2, _⟩ := h
    rcases h2 with (h2 | ⟨o, h2⟩) | ⟨o, its, n, h2, hc, _⟩
    · exact .base (.lst h2)
    · exact .base (.frz h2)
    · exact .kList h2 hc
  | tuple ds =>
    obtain ⟨a, vs, rfl, h2, _⟩ := h
    rcases sqT_same f h2.sq with (h2 | ⟨o, h2⟩) | ⟨o, its, n, h2, hc, _⟩
    · exact .base (.tup h2)
    · exact .fTuple h2
    · exact .kTuple h2 hc
  | dict _ => exact h.elim
theorem kit_all (t : Ty) (x : PyData) (h : ∀ d, x ≠ .dict d) : kitB (Ty.of x) t.name = some (t.sem x) := by
  cases x <;> cases t <;> first | decide +kernel | exact absurd rfl (h _) | (simp only [Ty.of, Ty.name, Ty.sem]; decide +kernel)
theorem boot_ty (t : Ty) : bootBuiltins (t.name : Str) = some (.type t.name) := by cases t <;> decide +kernel
theorem de_isi {a : P} {t : Ty} {x : Expr} {p p2 pos : Pos} (hi : BltN X "isinstance") (ht : BltN X (t.name : Str)) (hn : ns x = true) (ha : DE X ex W a x) : DE X ex W (.isi a t) (.Call (.Name "isinstance" p) [x, .Name (t.name : Str) p2] [] pos) := by
  obtain ⟨ta, pa, ja⟩ := ha
  have hnm : (t.name : Str) ≠ "__name__" := by cases t <;> decide
  have hdb : ((t.name : Str) == ("__debug__" : Str)) = false := by cases t <;> decide
  refine ⟨_, pe_callB call_isi hi.1 hi.2 boot_isinstance (pa_cons pa (pa_cons (pe_bltn (v := .ty t.name) ht.1 ht.2 (boot_ty t) rfl hnm hdb) pa_nil) (star_cons hn)) (by decide) (by decide) (star_cons hn), fun HF H0 H al S r s Q R L h => ?_⟩
  simp only [evalE] at h
  refine ja _ _ _ _ _ _ _ _ R L (h.bind fun u S1 v H1 H01 al1 e1 R1 u1 h1 => ?_)
  unfold isiU at h1
  split at h1
  · rename_i y q
    have hy := rd_of R1 u1 q
    refine ⟨v, _, _, _, t.sem y, rfl, .ty _, tyX_of R1.fz hy, kit_ty (kit_all t y fun d z => ?_), h1.now R1 rfl⟩
    subst z
    exact hy.elim
  · exact h1.elim

/-! ### indexes and slices -/
theorem atI_dps {K : PySem.W.Frag} {H : Hp} {ds : List PyData} {vs : List V} {i : Int} {z : PyData} (h : DPs K H ds vs) (e : atI ds i = some z) : ∃ v, atI vs i = some v ∧ DP K H z v := by
  unfold atI at e ⊢
  rw [h.length] at e
  cases q : ixN vs.length i with
  | none => rw [q] at e; cases e
  | some j =>
    rw [q] at e
    obtain ⟨v, h1, h2⟩ := h.get (show ds[j]? = some z from e)
    exact ⟨v, h1, h2⟩
theorem atI_ups {K : PySem.W.Frag} {H : Hp} {al : List Addr} {ds : List U} {vs : List V} {i : Int} {z : U} (h : UPs K ex H al ds vs) (e : atI ds i = some z) : ∃ v, atI vs i = some v ∧ UP K ex H al z v := by
  unfold atI at e ⊢
  rw [h.length] at e
  cases q : ixN vs.length i with
  | none => rw [q] at e; cases e
  | some j =>
    rw [q] at e
    obtain ⟨v, h1, h2⟩ := h.get (show ds[j]? = some z from e)
    exact ⟨v, h1, h2⟩
theorem idx_ok {HF H0 H : Hp} {al : List Addr} {S : Store} {s : L2.St} {Q : VK} {u w : U} {v v2 : V} (R : Rl X.K ex HF H0 H al S) (hu : UP X.K ex H0 al u v) (hw : UP X.K ex H0 al w v2)
    (h : Post X.K ex W HF H0 al s (UP X.K ex) (idxU u w S) Q) : rIx X.K v v2 H Q := by
  unfold idxU at h
  split at h
  · rename_i us i
    split at h
    · rename_i z q
      obtain ⟨a, xs, rfl, h2, h3⟩ := hu
      cases hw
      obtain ⟨v', q1, q2⟩ := atI_ups h3 q
      exact .inr (.inl ⟨a, xs, i, v', rfl, rfl, sqT_same R.fz h2, q1, h.now R q2⟩)
    · exact h.elim
  · rename_i y _
    split at h
    · rename_i x q
      have hx := rd_of R hu q
      split at h
      · rename_i z q2
        cases x <;> cases y <;> simp only [idxD] at q2 <;> try cases q2
        · rename_i ys i
          split at q2
          · rename_i hz
            obtain ⟨c, q3, rfl⟩ := Option.map_eq_some_iff.mp q2
            cases hx; cases hw
            exact .inr (.inr ⟨_, _, c, rfl, rfl, hz, q3, h.now R rfl⟩)
          · cases q2
        · rename_i ys i
          obtain ⟨a, vs, rfl, h2, h3⟩ := hx
          cases hw
          obtain ⟨v', q3, q4⟩ := atI_dps h3 q2
          exact .inl ⟨a, vs, _, v', rfl, rfl, h2, q3, h.now R q4⟩
        · rename_i ys i
          obtain ⟨a, vs, rfl, h2, h3⟩ := hx
          cases hw
          obtain ⟨v', q3, q4⟩ := atI_dps h3 q2
          exact .inr (.inl ⟨a, vs, _, v', rfl, rfl, sqT_same R.fz h2.sq, q3, h.now R q4⟩)
      · exact h.elim
    · exact h.elim
  · exact h.elim
def ixOk : Expr → Bool
  | .Slice _ _ _ _ => false
  | _ => true
theorem plain_ix {b : Expr} (h : ixOk b = true) : PlainIx b := fun o i => by
  cases b <;> first | rfl | cases h
theorem de_idx {a b : P} {x y : Expr} {pos : Pos} (hy : ixOk y = true) (ha : DE X ex W a x) (hb : DE X ex W b y) : DE X ex W (.idx a b) (.Subscript x y pos) := by
  obtain ⟨ta, pa, ja⟩ := ha
  obtain ⟨tb, pb, jb⟩ := hb
  refine ⟨_, pe_ix ix_seq pa pb (plain_ix hy), fun HF H0 H al S r s Q R L h => ?_⟩
  simp only [evalE] at h
  refine ja _ _ _ _ _ _ _ _ R L (h.bind fun u S1 v H1 H01 al1 e1 R1 u1 h1 => ?_)
  refine jb _ _ _ _ _ _ _ _ R1 (L.ext e1) (h1.bind fun w S2 v2 H2 H02 al2 e2 R2 w2 h2 => ?_)
  exact idx_ok R2 (UP.mono e2.sub e2.pre _ _ u1) w2 h2
def DO (X : Cx) (ex : ExK) (W : WX) (o : O) (e : Option Expr) : Prop := ∃ t, PO X e t ∧ Jd X.K ex W t (evalO o) (fun _ _ a b => b = a)
theorem do_no : DO X ex W .no none := ⟨_, po_none, fun HF H0 H al S r s Q R L h => h.now R rfl⟩
theorem do_yes {a : P} {x : Expr} (ha : DE X ex W a x) : DO X ex W (.yes a) (some x) := by
  obtain ⟨ta, pa, ja⟩ := ha
  refine ⟨_, po_some pa, fun HF H0 H al S r s Q R L h => ?_⟩
  simp only [evalO] at h
  refine ja _ _ _ _ _ _ _ _ R L (h.bind fun u S1 v H1 H01 al1 e1 R1 u1 h1 => ?_)
  split at h1
  · cases u1
    exact ⟨_, rfl, h1.now R1 rfl⟩
  · exact h1.elim
theorem cut_dps {K : PySem.W.Frag} {H : Hp} {ds : List PyData} {vs : List V} (h : DPs K H ds vs) (lo hi : Option Int) : DPs K H (cutD ds lo hi) (cutV vs lo hi) := by
  unfold cutD cutV
  rw [h.length]
  exact (h.drop _).take _
theorem de_slc {a : P} {lo hi : O} {x : Expr} {l u : Option Expr} {p2 pos : Pos} (ha : DE X ex W a x) (hl : DO X ex W lo l) (hh : DO X ex W hi u) : DE X ex W (.slc a lo hi) (.Subscript x (.Slice l u none p2) pos) := by
  obtain ⟨ta, pa, ja⟩ := ha
  obtain ⟨tl, pl, jl⟩ := hl
  obtain ⟨th, ph, jh⟩ := hh
  refine ⟨_, pe_slice (sl_list.or (sl_tupA.or C8.sl_txt)) pa pl ph, fun HF H0 H al S r s Q R L h => ?_⟩
  simp only [evalE] at h
  refine ja _ _ _ _ _ _ _ _ R L (h.bind fun u S1 v H1 H01 al1 e1 R1 u1 h1 => ?_)
  refine jl _ _ _ _ _ _ _ _ R1 (L.ext e1) (h1.bind fun lv S2 lw H2 H02 al2 e2 R2 l2 h2 => ?_)
  refine jh _ _ _ _ _ _ _ _ R2 ((L.ext e1).ext e2) (h2.bind fun hv S3 hw H3 H03 al3 e3 R3 l3 h3 => ?_)
  have u3 := UP.mono (e2.sub.trans e3.sub) (e2.pre.trans e3.pre) _ _ u1
  rw [show lw = lv from l2, show hw = hv from l3]
  unfold slcU at h3
  split at h3
  · rename_i y q
    have hy := rd_of R3 u3 q
    split at h3
    · rename_i z q2
      cases y <;> simp only [slcD] at q2 <;> try cases q2
      · split at q2
        · rename_i hs
          cases q2
          cases hy
          exact .inr (.inr ⟨_, rfl, hs, h3.now R3 rfl⟩)
        · cases q2
      · obtain ⟨a, vs, rfl, k2, k3⟩ := hy
        exact .inl ⟨a, vs, rfl, k2, fun p hp => h3.newL R3 hp (cut_dps k3 lv hv)⟩
      · obtain ⟨a, vs, rfl, k2, k3⟩ := hy
        split at q2
        · rename_i hs
          cases q2
          refine .inr (.inl ⟨a, vs, rfl, sqT_same R3.fz k2.sq, fun z => ?_, fun _ p hp => h3.newT R3 hp hs (cut_dps k3 lv hv)⟩)
          refine h3.now R3 ⟨a, vs, rfl, ⟨k2.sq, fun z => by rw [hs] at z; cases z⟩, ?_⟩
          have e := cut_dps k3 lv hv
          unfold cutV at e
          rw [z.1, z.2] at e
          simpa using e
        · cases q2
    · exact h3.elim
  · exact h3.elim

/-! ### displays -/
def tTupF (t : TA) : TE := fun σ H Q => t σ H fun xs H1 => xs.length ≤ sizeLine ∧ ∀ (p : Addr) (o : Obj), H1 p = none → o.cls = .type "tuple" → o.dict = none → Q (.ref p) (upd H1 p (.frz o (.tup xs)))
/-- a tuple's display: the new object is known -/
theorem pe_tupF {es : List Expr} {t : TA} {k : Nat} {pos : Pos} (h : PA X es t) : PE X (.Tuple es k pos) (tTupF t) := by
  refine ⟨fun pins s σ H Q I hq => ?_⟩
  refine wpAny_Tuple_spliced (thn (h.run pos pins s σ H _ I hq) fun us s1 ⟨xs, H1, J, r, z, q⟩ => ⟨by rw [← r.length]; exact z, ?_⟩)
  have e : (s1.heap.push { cls := .type "tuple", data := .seq us.toArray }).get? s1.heap.objs.size = some { cls := .type "tuple", data := .seq us.toArray } := Heap.get?_push_size _ rfl
  exact ⟨.ref s1.heap.objs.size, _, J.laid (t' := s1.toks) (fun b u e => Heap.get?_push_of_some _ e) (Nat.le_refl _)
    (show ObjOk X.prog X.w _ _ _ (.frz { cls := .type "tuple", data := .seq us.toArray } (.tup xs)) from ⟨e, z, us, r, ⟨_, e, rfl, _, rfl⟩⟩), rfl, q _ _ (J.hok.fresh (Nat.le_refl _)) rfl rfl⟩
theorem de_tup {ps : Ps} {es : List Expr} {k : Nat} {pos : Pos} (ha : DA X ex W ps es) (hlen : ∀ r S us S', evalEs ps r S = .ok us S' → us.length ≤ 1000) : DE X ex W (.tup ps) (.Tuple es k pos) := by
  obtain ⟨t, pt, jt⟩ := ha
  refine ⟨_, pe_tupF pt, fun HF H0 H al S r s Q R L h => ?_⟩
  simp only [evalE] at h
  have hz : ∀ us S', evalEs ps r S = .ok us S' → us.length ≤ sizeLine := fun us S' e => Nat.le_trans (hlen r S us S' e) (by decide)
  refine jt _ _ _ _ _ _ _ _ R L ?_
  cases q : evalEs ps r S with
  | exc c S1 => rw [q] at h; exact h
  | bad => rw [q] at h; exact h
  | ok us S1 =>
    rw [q] at h
    intro vs H1 H01 al1 e1 R1 u1
    have h1 := Post.shift e1 h
    refine ⟨by rw [← u1.length]; exact hz us S1 q, fun p o hp hc ho => ?_⟩
    simp only [Res.ok_bind] at h1
    unfold tupU at h1
    split at h1
    · rename_i xs q2
      exact h1.newTF R1 hp hc ho (u1.to_ds q2)
    · exact h1.newTLF R1 hp u1
theorem de_lst {ps : Ps} {es : List Expr} {pos : Pos} (ha : DA X ex W ps es) (hlen : ∀ r S us S', evalEs ps r S = .ok us S' → us.length ≤ 1000) : DE X ex W (.lst ps) (.List es pos) := by
  obtain ⟨t, pt, jt⟩ := ha
  refine ⟨_, pe_lst pt, fun HF H0 H al S r s Q R L h => ?_⟩
  simp only [evalE] at h
  have hz : ∀ us S', evalEs ps r S = .ok us S' → us.length ≤ sizeLine := fun us S' e => Nat.le_trans (hlen r S us S' e) (by decide)
  refine jt _ _ _ _ _ _ _ _ R L ?_
  cases q : evalEs ps r S with
  | exc c S1 => rw [q] at h; exact h
  | bad => rw [q] at h; exact h
  | ok us S1 =>
    rw [q] at h
    intro vs H1 H01 al1 e1 R1 u1
    have h1 := Post.shift e1 h
    refine ⟨by rw [← u1.length]; exact hz us S1 q, fun p hp => ?_⟩
    simp only [Res.ok_bind] at h1
    unfold lstU at h1
    split at h1
    · rename_i xs q2
      exact h1.newL R1 hp (u1.to_ds q2)
    · exact h1.elim
theorem de_newl {ps : Ps} {es : List Expr} {pos : Pos} (ha : DA X ex W ps es) (hlen : ∀ r S us S', evalEs ps r S = .ok us S' → us.length ≤ 1000) : DE X ex W (.newl ps) (.List es pos) := by
  obtain ⟨t, pt, jt⟩ := ha
  refine ⟨_, pe_lst pt, fun HF H0 H al S r s Q R L h => ?_⟩
  simp only [evalE] at h
  have hz : ∀ us S', evalEs ps r S = .ok us S' → us.length ≤ sizeLine := fun us S' e => Nat.le_trans (hlen r S us S' e) (by decide)
  refine jt _ _ _ _ _ _ _ _ R L ?_
  cases q : evalEs ps r S with
  | exc c S1 => rw [q] at h; exact h
  | bad => rw [q] at h; exact h
  | ok us S1 =>
    rw [q] at h
    intro vs H1 H01 al1 e1 R1 u1
    have h1 := Post.shift e1 h
    refine ⟨by rw [← u1.length]; exact hz us S1 q, fun p hp => ?_⟩
    simp only [Res.ok_bind] at h1
    unfold newlU at h1
    split at h1
    · rename_i xs q2
      obtain ⟨R2, e2⟩ := R1.push hp (u1.to_ds q2)
      refine h1 _ _ _ _ e2 R2 ⟨p, ?_, rfl⟩
      rw [← R1.len]
      simp
    · exact h1.elim
def Ps.len : Ps → Nat
  | .nil => 0
  | .cons _ r => r.len + 1
theorem evalEs_len : ∀ {ps : Ps} {r : Rho} {S S' : Store} {us : List U}, evalEs ps r S = .ok us S' → us.length = ps.len
  | .nil, r, S, S', us, e => by simp only [evalEs] at e; cases e; rfl
  | .cons a ps, r, S, S', us, e => by
    simp only [evalEs] at e
    cases q : evalE a r S with
    | exc c S1 => rw [q] at e; cases e
    | bad => rw [q] at e; cases e
    | ok u S1 =>
      rw [q] at e
      simp only [Res.ok_bind] at e
      cases q2 : evalEs ps r S1 with
      | exc c S1 => rw [q2] at e; cases e
      | bad => rw [q2] at e; cases e
      | ok us1 S2 =>
        rw [q2] at e
        simp only [Res.ok_bind] at e
        cases e
        simp [Ps.len, evalEs_len q2]
end
end PD
/-! Part E: what is walked; targets; list comprehensions; cells changed by methods. -/
namespace PD
open PySem PySem.Spec PyProof.Rows L2

/-- what a thing that is walked yields, while the data grows and the guarded cell stays -/
def Yl (K : PySem.W.Frag) (ex : ExK) (H0 : Hp) (al : List Addr) (J : L2.It) (items : List U) (g : Option (Nat × Cell)) : Prop :=
  ∀ (i : Nat) (HF H0' H' : Hp) (al' : List Addr) (S' : Store), Same H0 H0' → al <+: al' → Rl K ex HF H0' H' al' S' → keeps g S' = true →
    (i < items.length → J.go i H') ∧ (items.length ≤ i → J.stop i H') ∧
      ∀ u x H'', items[i]? = some u → J.yld i H' x H'' → ∃ H0'', Rl K ex HF H0'' H'' al' S' ∧ Xt HF H0' H0'' al' al' ∧ UP K ex H0'' al' u x
def WR (K : PySem.W.Frag) (ex : ExK) : Hp → List Addr → Walk → L2.It → Prop := fun H0 al w J => Yl K ex H0 al J w.1 w.2
def DI (X : Cx) (ex : ExK) (W : WX) (it : It) (tg e : Expr) : Prop := ∃ t, PI X tg e t ∧ Jd X.K ex W t (evalI it) (WR X.K ex)
section
variable {X : Cx} {ex : ExK} {W : WX}
theorem PI.or {tg e : Expr} {w1 w2 : TI} (h1 : PI X tg e w1) (h2 : PI X tg e w2) : PI X tg e (fun s H R => w1 s H R ∨ w2 s H R) :=
  ⟨fun pins s r H R I h => h.elim (h1.run pins s r H R I) (h2.run pins s r H R I)⟩
theorem upget {K : PySem.W.Frag} {H : Hp} {ds : List PyData} {vs : List V} {i : Nat} {u : U} {al : List Addr} {v : V} (h : DPs K H ds vs) (e : (ds.map U.d)[i]? = some u) (e2 : vs[i]? = some v) : UP K ex H al u v := by
  rw [List.getElem?_map] at e
  obtain ⟨d, h1, rfl⟩ := Option.map_eq_some_iff.mp e
  obtain ⟨w, h2, h3⟩ := h.get h1
  rw [e2] at h2
  cases h2
  exact h3
/-- a list of data -/
theorem yl_list {K : PySem.W.Frag} {H0 : Hp} {al : List Addr} {a : Addr} {ds : List PyData} {vs : List V} (h2 : H0 a = some (.lst vs)) (h3 : DPs K H0 ds vs) : Yl K ex H0 al (Itl K a) (ds.map .d) none := by
  intro i HF H0' H' al' S' s0 pre R _
  have hq : SqL K H' a vs := SqL.of (R.fz _ _ (s0 _ _ h2))
  have hd := DPs.mono s0 _ _ h3
  have hl := h3.length
  refine ⟨fun hi => ?_, fun hi => ⟨vs, hq, by simp at hi; omega⟩, fun u x H'' e y => ?_⟩
  · have hi' : i < vs.length := by simp at hi; omega
    exact ⟨vs, vs[i], hq, List.getElem?_eq_getElem hi'⟩
  · obtain ⟨rfl, y⟩ := y
    exact ⟨H0', R, Xt.refl, upget hd e (y vs hq)⟩
/-- a tuple of data -/
theorem yl_tup {K : PySem.W.Frag} {H0 : Hp} {al : List Addr} {a : Addr} {us : List U} {vs : List V} (h2 : SqT K H0 a vs) (h3 : UPs K ex H0 al us vs) : Yl K ex H0 al (Itt K a) us none := by
  intro i HF H0' H' al' S' s0 pre R _
  have hq : SqT K H' a vs := sqT_same R.fz (sqT_same s0 h2)
  have hd := UPs.mono s0 pre _ _ h3
  have hl := h3.length
  refine ⟨fun hi => ?_, fun hi => ⟨vs, hq, by omega⟩, fun u x H'' e y => ?_⟩
  · have hi' : i < vs.length := by omega
    exact ⟨vs, vs[i], hq, List.getElem?_eq_getElem hi'⟩
  · obtain ⟨rfl, y⟩ := y
    obtain ⟨w, q1, q2⟩ := hd.get e
    rw [y vs hq] at q1
    cases q1
    exact ⟨H0', R, Xt.refl, q2⟩
theorem yl_ll {K : PySem.W.Frag} {H0 : Hp} {al : List Addr} {a : Addr} {us : List U} {vs : List V} (h2 : H0 a = some (.lst vs)) (h3 : UPs K ex H0 al us vs) : Yl K ex H0 al (Itl K a) us none := by
  intro i HF H0' H' al' S' s0 pre R _
  have hq : SqL K H' a vs := SqL.of (R.fz _ _ (s0 _ _ h2))
  have hd := UPs.mono s0 pre _ _ h3
  have hl := h3.length
  refine ⟨fun hi => ?_, fun hi => ⟨vs, hq, by omega⟩, fun u x H'' e y => ?_⟩
  · have hi' : i < vs.length := by omega
    exact ⟨vs, vs[i], hq, List.getElem?_eq_getElem hi'⟩
  · obtain ⟨rfl, y⟩ := y
    obtain ⟨w, q1, q2⟩ := hd.get e
    rw [y vs hq] at q1
    cases q1
    exact ⟨H0', R, Xt.refl, q2⟩
/-- a cell that stays -/
theorem yl_cell {K : PySem.W.Frag} {H0 : Hp} {al : List Addr} {a : Addr} {n : Nat} {ds : List PyData} (h1 : al[n]? = some a) : Yl K ex H0 al (Itl K a) (ds.map .d) (some (n, .lst ds)) := by
  intro i HF H0' H' al' S' s0 pre R hk
  have hS : S'[n]? = some (.lst ds) := by simpa [keeps] using hk
  obtain ⟨_, _, vs, h2, h3⟩ := R.at_ n a _ (pre_get pre h1) hS
  have hq : SqL K H' a vs := SqL.of h2
  have hl := h3.length
  refine ⟨fun hi => ?_, fun hi => ⟨vs, hq, by simp at hi; omega⟩, fun u x H'' e y => ?_⟩
  · have hi' : i < vs.length := by simp at hi; omega
    exact ⟨vs, vs[i], hq, List.getElem?_eq_getElem hi'⟩
  · obtain ⟨rfl, y⟩ := y
    exact ⟨H0', R, Xt.refl, upget h3 e (y vs hq)⟩
theorem rangeD_get {lo hi : Int} {i : Nat} {u : U} (e : ((rangeD lo hi).map U.d)[i]? = some u) : u = .d (.int (lo + i)) ∧ i < (hi - lo).toNat := by
  unfold rangeD at e
  rw [List.getElem?_map, List.getElem?_map] at e
  cases q : (List.range (hi - lo).toNat)[i]? with
  | none => rw [q] at e; cases e
  | some k =>
    rw [q] at e
    obtain ⟨h1, h2⟩ := List.getElem?_eq_some_iff.mp q
    simp at h2
    subst h2
    cases e
    exact ⟨rfl, by simpa using h1⟩
theorem yl_range {K : PySem.W.Frag} {H0 : Hp} {al : List Addr} {lo hi : Int} : Yl K ex H0 al (Itr lo (hi - lo).toNat) ((rangeD lo hi).map .d) none := by
  intro i HF H0' H' al' S' s0 pre R _
  have hl : ((rangeD lo hi).map U.d).length = (hi - lo).toNat := by simp [rangeD]
  rw [hl]
  refine ⟨fun h => h, fun h => h, fun u x H'' e y => ?_⟩
  obtain ⟨rfl, rfl⟩ := y
  obtain ⟨rfl, _⟩ := rangeD_get e
  exact ⟨H0', R, Xt.refl, rfl⟩
theorem di_ex {a : P} {e tg : Expr} (ha : DE X ex W a e) : DI X ex W (.ex a) tg e := by
  obtain ⟨t, pt, jt⟩ := ha
  refine ⟨_, PI.or (pi_list pt) (pi_tup pt), fun HF H0 H al S r s Q R L h => ?_⟩
  simp only [evalI] at h
  cases q : evalE a r S with
  | bad => rw [q] at h; exact h.elim
  | exc c S1 =>
    rw [q] at h
    refine .inl (jt _ _ _ _ _ _ _ _ R L ?_)
    rw [q]
    exact h
  | ok u S1 =>
    rw [q] at h
    simp only [Res.ok_bind] at h
    cases u with
    | d x =>
      cases x with
      | list ds =>
        refine .inl (jt _ _ _ _ _ _ _ _ R L ?_)
        rw [q]
        intro v H1 H01 al1 e1 R1 u1
        obtain ⟨a, vs, rfl, h2, h3⟩ := u1
        exact ⟨a, rfl, ⟨vs, SqL.of (R1.fz _ _ h2)⟩, h _ H1 H01 al1 e1 R1 (yl_list h2 h3)⟩
      | tuple ds =>
        refine .inr (jt _ _ _ _ _ _ _ _ R L ?_)
        rw [q]
        intro v H1 H01 al1 e1 R1 u1
        obtain ⟨a, vs, rfl, h2, h3⟩ := u1
        exact ⟨a, rfl, ⟨vs, sqT_same R1.fz h2.sq⟩, h _ H1 H01 al1 e1 R1 (yl_tup h2.sq (UPs.of_ds h3))⟩
      | _ => exact h.elim
    | tl us =>
      refine .inr (jt _ _ _ _ _ _ _ _ R L ?_)
      rw [q]
      intro v H1 H01 al1 e1 R1 u1
      obtain ⟨a, vs, rfl, h2, h3⟩ := u1
      exact ⟨a, rfl, ⟨vs, sqT_same R1.fz h2⟩, h _ H1 H01 al1 e1 R1 (yl_tup h2 h3)⟩
    | ll us =>
      refine .inl (jt _ _ _ _ _ _ _ _ R L ?_)
      rw [q]
      intro v H1 H01 al1 e1 R1 u1
      obtain ⟨a, vs, rfl, h2, h3⟩ := u1
      exact ⟨a, rfl, ⟨vs, SqL.of (R1.fz _ _ h2)⟩, h _ H1 H01 al1 e1 R1 (yl_ll h2 h3)⟩
    | loc n =>
      simp only [itemsU, guardU] at h
      cases q2 : S1[n]? with
      | none => rw [q2] at h; exact h.elim
      | some c =>
        rw [q2] at h
        cases c with
        | lst ds =>
          refine .inl (jt _ _ _ _ _ _ _ _ R L ?_)
          rw [q]
          intro v H1 H01 al1 e1 R1 u1
          obtain ⟨a, h1, rfl⟩ := u1
          obtain ⟨_, _, vs, h2, h3⟩ := R1.at_ n a _ h1 q2
          refine ⟨a, rfl, ⟨vs, SqL.of h2⟩, h _ H1 H01 al1 e1 R1 ?_⟩
          show Yl X.K ex H01 al1 (Itl X.K a) _ (match S1[n]? with | some c => some (n, c) | none => none)
          rw [q2]
          exact yl_cell h1
        | _ => exact h.elim
    | _ => exact h.elim
theorem di_rg1 {a : P} {e tg : Expr} {p pos : Pos} (hb : BltN X "range") (hn : ns e = true) (ha : DE X ex W a e) : DI X ex W (.rg1 a) tg (.Call (.Name "range" p) [e] [] pos) := by
  obtain ⟨t, pt, jt⟩ := ha
  refine ⟨_, pi_range1 hb.1 hb.2 (pa_cons pt pa_nil (star_cons hn)) (by rw [star_cons hn]; rfl), fun HF H0 H al S r s Q R L h => ?_⟩
  simp only [evalI] at h
  refine jt _ _ _ _ _ _ _ _ R L (h.bind fun u S1 v H1 H01 al1 e1 R1 u1 h1 => ?_)
  split at h1
  · rename_i n
    split at h1
    · rename_i hz
      cases u1
      refine ⟨n, rfl, by omega, by omega, ?_⟩
      have y : Yl X.K ex H01 al1 (Itr 0 (n - 0).toNat) ((rangeD 0 n).map .d) none := yl_range
      rw [Int.sub_zero] at y
      exact h1.now R1 y
    · exact h1.elim
  · exact h1.elim
theorem di_rg2 {a b : P} {e f tg : Expr} {p pos : Pos} (hb : BltN X "range") (hn : ns e = true) (hn2 : ns f = true) (ha : DE X ex W a e) (hf : DE X ex W b f) : DI X ex W (.rg2 a b) tg (.Call (.Name "range" p) [e, f] [] pos) := by
  obtain ⟨t, pt, jt⟩ := ha
  obtain ⟨t2, pt2, jt2⟩ := hf
  refine ⟨_, pi_range2 hb.1 hb.2 (pa_cons pt (pa_cons pt2 pa_nil (star_cons hn2)) (star_cons hn)) (by rw [star_cons hn, star_cons hn2]; rfl) (by rw [star_cons hn2]; rfl), fun HF H0 H al S r s Q R L h => ?_⟩
  simp only [evalI] at h
  refine jt _ _ _ _ _ _ _ _ R L (h.bind fun u S1 v H1 H01 al1 e1 R1 u1 h1 => ?_)
  refine jt2 _ _ _ _ _ _ _ _ R1 (L.ext e1) (h1.bind fun w S2 v2 H2 H02 al2 e2 R2 u2 h2 => ?_)
  split at h2
  · rename_i m n
    split at h2
    · rename_i hz
      cases u1; cases u2
      exact ⟨m, n, rfl, ⟨by omega, by omega, by omega, by omega⟩, h2.now R2 yl_range⟩
    · exact h2.elim
  · exact h2.elim

/-! ### targets -/
def setVs : List Nat → List V → L2.St → L2.St
  | i :: is, v :: vs, s => setVs is vs (s.set i (some v))
  | _, _, s => s
def DG (X : Cx) (ex : ExK) (g : Tg) (e : Expr) : Prop := ∃ t, PG X e t ∧ ∀ (HF H0 H : Hp) (al : List Addr) (S : Store) (r r' : Rho) (s : L2.St) (u : U) (v : V) (Q : L2.St → Hp → Prop), Rl X.K ex HF H0 H al S → Sl X.K ex H0 al s r → UP X.K ex H0 al u v → setT g u r = some r' →
  (∀ s', Sl X.K ex H0 al s' r' → (∀ own : List Nat, (∀ i ∈ g.slots, i ∈ own) → wipe s' own = wipe s own) → Q s' H) → t v s H Q
theorem wipe_at (s : L2.St) : ∀ (own : List Nat) (j : Nat), (wipe s own)[j]? = if j ∈ own then (if j < s.length then some none else none) else s[j]?
  | [], j => by simp [wipe]
  | v :: vs, j => by
    unfold wipe
    rw [List.getElem?_set]
    have ih := wipe_at s vs j
    have hl := wipe_length s vs
    by_cases hv : v = j
    · subst hv
      simp [hl]
    · rw [if_neg hv, ih]
      have hv' : ¬ j = v := fun z => hv z.symm
      simp [hv']
theorem wipe_set {s : L2.St} {own : List Nat} {i : Nat} {o : Option V} (h : i ∈ own) : wipe (s.set i o) own = wipe s own := by
  apply List.ext_getElem?
  intro j
  rw [wipe_at, wipe_at]
  by_cases hj : j ∈ own
  · simp [hj]
  · rw [if_neg hj, if_neg hj]
    have : i ≠ j := fun z => hj (z ▸ h)
    rw [List.getElem?_set_ne this]
theorem wipe_wipe {s : L2.St} {own : List Nat} : wipe (wipe s own) own = wipe s own := by
  apply List.ext_getElem?
  intro j
  rw [wipe_at, wipe_at, wipe_length]
  by_cases hj : j ∈ own
  · simp [hj]
  · rw [if_neg hj, if_neg hj]
def Stor (X : Cx) (i : Nat) (x : Str) : Prop := X.N[i]? = some x ∧ Loc X.env.scope x ∧ (X.fn x = true ∨ X.env.scope.names.lookup x = some .local)
theorem dg_name {i : Nat} {x : Str} {pos : Pos} (hN : X.N.Nodup) (h : Stor X i x) : DG X ex (.name i) (.Name x pos) := by
  refine ⟨_, pg_name hN h.1 h.2.1 h.2.2, fun HF H0 H al S r r' s u v Q R L hu e q => ?_⟩
  cases e
  exact q _ (L.set hu) fun own ho => wipe_set (ho i (by simp [Tg.slots]))
/-- several names -/
def NamesAre (X : Cx) : List Nat → List Expr → Prop
  | [], [] => True
  | i :: is, .Name x _ :: es => Stor X i x ∧ NamesAre X is es
  | _, _ => False
theorem dgs {is : List Nat} {es : List Expr} (hN : X.N.Nodup) (h : NamesAre X is es) : ∃ t, PGs X es t ∧ (assignEach es X.env).length = is.length ∧ (assignEach es X.env).findIdx? (·.1) = none ∧
    ∀ (H0 H : Hp) (al : List Addr) (r r' : Rho) (s : L2.St) (us : List U) (vs : List V) (Q : L2.St → Hp → Prop), Sl X.K ex H0 al s r → UPs X.K ex H0 al us vs → setIs is us r = some r' →
      (∀ s', Sl X.K ex H0 al s' r' → (∀ own : List Nat, (∀ i ∈ is, i ∈ own) → wipe s' own = wipe s own) → Q s' H) → t vs s H Q := by
  induction is generalizing es with
  | nil =>
    cases es with
    | nil =>
      refine ⟨_, pgs_nil, rfl, rfl, fun H0 H al r r' s us vs Q L hu e q => ?_⟩
      cases us with
      | nil =>
        cases e
        cases hu
        exact ⟨rfl, q s L fun _ _ => rfl⟩
      | cons u us => cases e
    | cons e es => exact h.elim
  | cons i is ih =>
    cases es with
    | nil => exact h.elim
    | cons e es =>
      cases e with
      | Name x pos =>
        obtain ⟨h1, h2⟩ := h
        obtain ⟨t, pt, l1, l2, jt⟩ := ih h2
        refine ⟨_, pgs_cons (pg_name hN h1.1 h1.2.1 h1.2.2) pt rfl, ?_, ?_, fun H0 H al r r' s us vs Q L hu e q => ?_⟩
        · show (assignEach es X.env).length + 1 = _
          rw [l1]; rfl
        · show List.findIdx? (·.1) ((false, assign (.Name x pos) X.env) :: assignEach es X.env) = none
          rw [List.findIdx?_cons]
          simp [l2]
        · cases us with
          | nil => cases e
          | cons u us =>
            obtain ⟨v, vr, rfl, hu1, hu2⟩ := hu
            refine ⟨v, vr, rfl, ?_⟩
            refine jt H0 H al _ r' _ us vr Q (L.set hu1) hu2 e fun s' L' hw => q s' L' fun own ho => ?_
            rw [hw own fun j hj => ho j (List.mem_cons_of_mem _ hj)]
            exact wipe_set (ho i List.mem_cons_self)
      | _ => exact h.elim
theorem dg_tup {is : List Nat} {es : List Expr} {k : Nat} {pos : Pos} (hc : X.calm = true) (hN : X.N.Nodup) (h : NamesAre X is es) : DG X ex (.tup is) (.Tuple es k pos) := by
  obtain ⟨t, pt, l1, l2, jt⟩ := dgs (ex := ex) hN h
  refine ⟨_, pg_tup (n := is.length) hc pt l1 l2, fun HF H0 H al S r r' s u v Q R L hu e q => ?_⟩
  have hlen : ∀ {us : List U} {is : List Nat} {r r' : Rho}, setIs is us r = some r' → us.length = is.length := by
    intro us
    induction us with
    | nil => intro is r r' e; cases is with
      | nil => rfl
      | cons i is => cases e
    | cons u us ih => intro is r r' e; cases is with
      | nil => cases e
      | cons i is => simp [ih (show setIs is us (r.set i (some u)) = some r' from e)]
  cases u with
  | d x =>
    cases x with
    | tuple xs =>
      obtain ⟨a, vs, rfl, h2, h3⟩ := hu
      have e' : setIs is (xs.map .d) r = some r' := e
      have hl := hlen e'
      exact ⟨a, vs, rfl, sqT_same R.fz h2.sq, by rw [← hl, List.length_map]; exact h3.length.symm, jt H0 H al r r' s _ vs Q L (UPs.of_ds h3) e' q⟩
    | _ => cases e
  | tl us =>
    obtain ⟨a, vs, rfl, h2, h3⟩ := hu
    have e' : setIs is us r = some r' := e
    have hl := hlen e'
    exact ⟨a, vs, rfl, sqT_same R.fz h2, by rw [← hl]; exact h3.length.symm, jt H0 H al r r' s _ vs Q L h3 e' q⟩
  | _ => cases e

/-! ### a list that is being made -/
section
variable {K : PySem.W.Frag} {HF H0 H : Hp} {al : List Addr} {S : Store} {D : Addr} {o o' : HO}
theorem Rl.frame (R : Rl K ex HF H0 H al S) (hD : H D = none) (ho : ∀ ps, o ≠ .tbl ps := by intro _ z; cases z) : Rl K ex (upd HF D o) H0 (upd H D o) al S ∧ H0 D = none ∧ HF D = none := by
  have h0 : H0 D = none := R.fz.free hD
  have hF : HF D = none := R.fr.free hD
  refine ⟨⟨fun b x e => ?_, fun b x e => ?_, R.len, R.nd, fun n a c h1 h2 => ?_, fun a ha => ?_⟩, h0, hF⟩
  · by_cases hb : b = D
    · subst hb; rw [upd_same] at e ⊢; exact e
    · rw [upd_ne hb] at e ⊢; exact R.fr b x e
  · rw [upd_ne (ne_of_none e h0)]; exact R.fz b x e
  · have hap : a ≠ D := fun z => R.old a (List.mem_of_getElem? h1) (by rw [z]; exact hD)
    have q := R.at_ n a c h1 h2
    cases c with
    | dead => exact q
    | lst ds =>
      obtain ⟨q1, q2, vs, q3, q4⟩ := q
      exact ⟨by rw [upd_ne hap]; exact q1, q2, vs, by rw [upd_ne hap]; exact q3, q4⟩
    | dct kvs =>
      obtain ⟨q1, q2, ws, q3, q4, q5⟩ := q
      exact ⟨by rw [upd_ne hap]; exact q1, q2, ws, by rw [upd_ne hap]; exact q3, q4, q5⟩
    | ins cn fs =>
      obtain ⟨q1, q2, dx, ws, q3, q4, q5, q6, q7, q8, q9⟩ := q
      have hdp : dx ≠ D := ne_of_none q8 hD
      exact ⟨by rw [upd_ne hap]; exact q1, q2, dx, ws, by rw [upd_ne hap]; exact q3, q4, q5, by rw [upd_ne hdp]; exact q6, q7, by rw [upd_ne hdp]; exact q8, q9⟩
    | tab q =>
      obtain ⟨q1, q2, q3, q4, q5⟩ := q
      exact ⟨by rw [upd_ne hap]; exact q1, q2, q3.ext (fun b x e => by rw [upd_ne (ne_of_none e hD)]; exact e), ⟨nt_upd q4.1 ho, q4.2⟩, q5⟩
  · by_cases hb : a = D
    · rw [hb, upd_same]; simp
    · rw [upd_ne hb]; exact R.old a ha
theorem Rl.reframe (R : Rl K ex (upd HF D o) H0 H al S) (h0 : H0 D = none) (ho : ∀ ps, o ≠ .tbl ps := by intro _ z; cases z) (hx : ∀ g, o ≠ .ext g := by intro _ z; cases z) (ho' : ∀ ps, o' ≠ .tbl ps := by intro _ z; cases z) : Rl K ex (upd HF D o') H0 (upd H D o') al S := by
  have ne : ∀ a, (upd HF D o) a = none → a ≠ D := fun a h z => by rw [z, upd_same] at h; cases h
  refine ⟨fun b x e => ?_, fun b x e => ?_, R.len, R.nd, fun n a c h1 h2 => ?_, fun a ha => ?_⟩
  · by_cases hb : b = D
    · subst hb; rw [upd_same] at e ⊢; exact e
    · rw [upd_ne hb] at e ⊢; exact R.fr b x (by rw [upd_ne hb]; exact e)
  · rw [upd_ne (ne_of_none e h0)]; exact R.fz b x e
  · have q := R.at_ n a c h1 h2
    cases c with
    | dead => exact q
    | lst ds =>
      obtain ⟨q1, q2, vs, q3, q4⟩ := q
      have hap := ne a q1
      exact ⟨by rw [upd_ne hap] at q1 ⊢; exact q1, q2, vs, by rw [upd_ne hap]; exact q3, q4⟩
    | dct kvs =>
      obtain ⟨q1, q2, ws, q3, q4, q5⟩ := q
      have hap := ne a q1
      exact ⟨by rw [upd_ne hap] at q1 ⊢; exact q1, q2, ws, by rw [upd_ne hap]; exact q3, q4, q5⟩
    | ins cn fs =>
      obtain ⟨q1, q2, dx, ws, q3, q4, q5, q6, q7, q8, q9⟩ := q
      have hap := ne a q1
      have hdp := ne dx q6
      exact ⟨by rw [upd_ne hap] at q1 ⊢; exact q1, q2, dx, ws, by rw [upd_ne hap]; exact q3, q4, q5, by rw [upd_ne hdp] at q6 ⊢; exact q6, q7, by rw [upd_ne hdp]; exact q8, q9⟩
    | tab q =>
      obtain ⟨q1, q2, q3, q4, q5⟩ := q
      have hap := ne a q1
      refine ⟨by rw [upd_ne hap] at q1 ⊢; exact q1, q2, tabS_upd q3 (R.fr _ _ upd_same) ho hx, ⟨fun b ps e => ?_, q4.2⟩, q5⟩
      by_cases hb : b = D
      · subst hb; rw [upd_same] at e; exact ho' ps (Option.some.inj e)
      · rw [upd_ne hb] at e; exact q4.1 b ps (by rw [upd_ne hb]; exact e)
  · by_cases hb : a = D
    · rw [hb, upd_same]; simp
    · rw [upd_ne hb]; exact R.old a ha
/-- the list is made: it is data -/
theorem Rl.unframe {vs : List V} {ds : List PyData} (R : Rl K ex (upd HF D (.lst vs)) H0 H al S) (h0 : H0 D = none) (hF : HF D = none) (hd : DPs K H0 ds vs) :
    Rl K ex HF (upd H0 D (.lst vs)) H al S ∧ Xt HF H0 (upd H0 D (.lst vs)) al al ∧ DP K (upd H0 D (.lst vs)) (.list ds) (.ref D) := by
  have ne : ∀ a, (upd HF D (.lst vs)) a = none → a ≠ D := fun a h z => by rw [z, upd_same] at h; cases h
  have su : Same H0 (upd H0 D (.lst vs)) := fun b x e => by rw [upd_ne (ne_of_none e h0)]; exact e
  refine ⟨⟨fun b x e => ?_, fun b x e => ?_, R.len, R.nd, fun n a c h1 h2 => ?_, R.old⟩, ⟨su, fun b hb => ?_, List.prefix_refl _⟩, D, vs, rfl, upd_same, DPs.mono su _ _ hd⟩
  · have hb : b ≠ D := ne_of_none e hF
    exact R.fr b x (by rw [upd_ne hb]; exact e)
  · by_cases hb : b = D
    · subst hb; rw [upd_same] at e; cases e; exact R.fr _ _ upd_same
    · rw [upd_ne hb] at e; exact R.fz b x e
  · have q := R.at_ n a c h1 h2
    cases c with
    | dead =>
      show upd H0 D (.lst vs) a ≠ none
      by_cases hb : a = D
      · rw [hb, upd_same]; simp
      · rw [upd_ne hb]; exact q
    | lst ds =>
      obtain ⟨q1, q2, vs, q3, q4⟩ := q
      have hap := ne a q1
      exact ⟨by rw [upd_ne hap] at q1; exact q1, by rw [upd_ne hap]; exact q2, vs, q3, DPs.mono su _ _ q4⟩
    | dct kvs =>
      obtain ⟨q1, q2, ws, q3, q4, q5⟩ := q
      have hap := ne a q1
      exact ⟨by rw [upd_ne hap] at q1; exact q1, by rw [upd_ne hap]; exact q2, ws, q3, q4, DPs.mono su _ _ q5⟩
    | ins cn fs =>
      obtain ⟨q1, q2, dx, ws, q3, q4, q5, q6, q7, q8, q9⟩ := q
      have hap := ne a q1
      have hdp := ne dx q6
      exact ⟨by rw [upd_ne hap] at q1; exact q1, by rw [upd_ne hap]; exact q2, dx, ws, q3, q4, UPs.mono su (List.prefix_refl _) _ _ q5, by rw [upd_ne hdp] at q6; exact q6, by rw [upd_ne hdp]; exact q7, q8, q9⟩
    | tab q =>
      obtain ⟨q1, q2, q3, q4, q5⟩ := q
      have hap := ne a q1
      exact ⟨by rw [upd_ne hap] at q1; exact q1, by rw [upd_ne hap]; exact q2, q3, ⟨fun b ps e => q4.1 b ps (by rw [upd_ne (ne_of_none e hF)]; exact e), q4.2⟩, nt_upd q5 (fun _ z => nomatch z)⟩
  · have hb' : b ≠ D := fun z => hb (by rw [z]; exact hF)
    rw [upd_ne hb']
end
/-- the state within a comprehension: D holds acc, which stands for ds -/
structure LS (K : PySem.W.Frag) (ex : ExK) (HF Hb : Hp) (ab : List Addr) (D : Addr) (H0 H : Hp) (al : List Addr) (S : Store) (acc : List V) (ds : List PyData) : Prop where
  R : Rl K ex (upd HF D (.lst acc)) H0 H al S
  x : Xt HF Hb H0 ab al
  d0 : H0 D = none
  dF : HF D = none
  ds : DPs K H0 ds acc
theorem LS.step {K : PySem.W.Frag} {HF Hb H0 H H0' H' : Hp} {ab al al' : List Addr} {D : Addr} {S S' : Store} {acc : List V} {ds : List PyData} (l : LS K ex HF Hb ab D H0 H al S acc ds)
    (e : Xt (upd HF D (.lst acc)) H0 H0' al al') (R : Rl K ex (upd HF D (.lst acc)) H0' H' al' S') : LS K ex HF Hb ab D H0' H' al' S' acc ds := by
  refine ⟨R, l.x.trans ⟨e.sub, fun b hb => e.new b ?_, e.pre⟩, ?_, l.dF, DPs.mono e.sub _ _ l.ds⟩
  · have hb' : b ≠ D := fun z => hb (by rw [z]; exact l.dF)
    rw [upd_ne hb']; exact hb
  · rw [e.new D (by rw [upd_same]; simp)]; exact l.d0
theorem LS.app {K : PySem.W.Frag} {HF Hb H0 H : Hp} {ab al : List Addr} {D : Addr} {S : Store} {acc : List V} {ds : List PyData} {x : PyData} {y : V} (l : LS K ex HF Hb ab D H0 H al S acc ds) (h : DP K H0 x y) :
    LS K ex HF Hb ab D H0 (upd H D (.lst (acc ++ [y]))) al S (acc ++ [y]) (ds ++ [x]) := ⟨l.R.reframe l.d0, l.x, l.d0, l.dF, l.ds.append (DPs.one h)⟩
theorem lcLoop_cons {g : Option (Nat × Cell)} {f : U → Store → Res (List PyData)} {u : U} {us : List U} {S S' : Store} {ys : List PyData} (h : lcLoop g f (u :: us) S = .ok ys S') :
    ∃ r S1 zs, f u S = .ok r S1 ∧ keeps g S1 = true ∧ lcLoop g f us S1 = .ok zs S' ∧ ys = r ++ zs := by
  unfold lcLoop at h
  cases q : f u S with
  | exc c S1 => rw [q] at h; cases h
  | bad => rw [q] at h; cases h
  | ok r S1 =>
    rw [q] at h
    simp only [Res.ok_bind] at h
    split at h
    · rename_i hk
      cases q2 : lcLoop g f us S1 with
      | exc c S1 => rw [q2] at h; cases h
      | bad => rw [q2] at h; cases h
      | ok zs S2 =>
        rw [q2] at h
        simp only [Res.ok_bind] at h
        cases h
        exact ⟨r, S1, zs, rfl, hk, q2, rfl⟩
    · cases h
theorem loop_lc {K : PySem.W.Frag} {HF Hb : Hp} {ab : List Addr} {D : Addr} {J : L2.It} {items : List U} {g : Option (Nat × Cell)} {b : V → Hp → (Hp → Prop) → Prop} {f : U → Store → Res (List PyData)} {Fin : Hp → Prop} {H01 : Hp} {al1 : List Addr}
    (hY : Yl K ex H01 al1 J items g) {H1 : Hp} {S1 S2 : Store} {acc1 : List V} {ds1 ys : List PyData} (l1 : LS K ex HF Hb ab D H01 H1 al1 S1 acc1 ds1) (hk : keeps g S1 = true) (hrun : lcLoop g f items S1 = .ok ys S2)
    (hb : ∀ (H0' H' : Hp) (al' : List Addr) (S' S'' : Store) (acc : List V) (ds zs : List PyData) (u : U) (x : V) (Nx : Hp → Prop), Same H01 H0' → al1 <+: al' → LS K ex HF Hb ab D H0' H' al' S' acc ds → UP K ex H0' al' u x → f u S' = .ok zs S'' → ds.length + zs.length ≤ (ds1 ++ ys).length →
      (∀ H0'' H'' al'' acc', Same H0' H0'' → al' <+: al'' → LS K ex HF Hb ab D H0'' H'' al'' S'' acc' (ds ++ zs) → Nx H'') → b x H' Nx)
    (hfin : ∀ H0' H' al' acc, Same H01 H0' → al1 <+: al' → LS K ex HF Hb ab D H0' H' al' S2 acc (ds1 ++ ys) → Fin H') :
    ∃ W : Nat → Nat → Hp → Prop, (∃ m, W 0 m H1) ∧ ∀ i m H, W i m H → (J.stop i H ∧ Fin H) ∨ (J.go i H ∧ ∃ Nx : Hp → Prop, (∀ H', Nx H' → ∃ m', m' < m ∧ W (i + 1) m' H') ∧ ∀ x H', J.yld i H x H' → b x H' Nx) := by
  refine ⟨fun i m H => m = items.length - i ∧ i ≤ items.length ∧ ∃ H0 al S acc ds zs, Same H01 H0 ∧ al1 <+: al ∧ LS K ex HF Hb ab D H0 H al S acc ds ∧ keeps g S = true ∧ lcLoop g f (items.drop i) S = .ok zs S2 ∧ ds ++ zs = ds1 ++ ys,
    ⟨items.length, by simp, Nat.zero_le _, H01, al1, S1, acc1, ds1, ys, Same.refl _, List.prefix_refl _, l1, hk, by simpa using hrun, rfl⟩, ?_⟩
  rintro i m H ⟨rfl, hi, H0, al, S, acc, ds, zs, s0, pre, l, kp, run, e⟩
  obtain ⟨y1, y2, y3⟩ := hY i _ H0 H al S s0 pre l.R kp
  by_cases hlt : i < items.length
  · refine .inr ⟨y1 hlt, _, fun H' h => h, fun x H' hx => ?_⟩
    have hg : items[i]? = some items[i] := List.getElem?_eq_getElem hlt
    obtain ⟨H0'', R'', x'', u''⟩ := y3 _ x H' hg hx
    rw [List.drop_eq_getElem_cons hlt] at run
    obtain ⟨r, S3, zs', q1, q2, q3, q4⟩ := lcLoop_cons run
    refine hb H0'' H' al S S3 acc ds r items[i] x _ (s0.trans x''.sub) pre (l.step x'' R'') u'' q1 ?_ fun H3 H4 al3 acc3 s3 p3 l3 => ?_
    · rw [← e, q4]; simp [Nat.add_assoc]
    · exact ⟨items.length - (i + 1), by omega, rfl, hlt, H3, al3, S3, acc3, ds ++ r, zs', (s0.trans x''.sub).trans s3, pre.trans p3, l3, q2, q3, by rw [← e, q4, List.append_assoc]⟩
  · have ei : items.length ≤ i := by omega
    rw [List.drop_eq_nil_of_le ei] at run
    simp only [lcLoop] at run
    cases run
    rw [List.append_nil] at e
    subst e
    exact .inl ⟨y2 ei, hfin H0 H al acc s0 pre l⟩
theorem evalI_guard {it : It} {r : Rho} {S S' : Store} {w : Walk} (h : evalI it r S = .ok w S') : keeps w.2 S' = true := by
  cases it with
  | ex a =>
    simp only [evalI] at h
    cases q : evalE a r S with
    | exc c S1 => rw [q] at h; cases h
    | bad => rw [q] at h; cases h
    | ok u S1 =>
      rw [q] at h
      simp only [Res.ok_bind] at h
      cases q2 : itemsU S1 u with
      | none => rw [q2] at h; cases h
      | some us =>
        rw [q2] at h
        simp only [lift_some, Res.ok_bind] at h
        cases h
        cases u with
        | loc n =>
          simp only [guardU]
          split
          · rename_i c q3; exact keeps_some q3
          · rfl
        | _ => rfl
  | rg1 a =>
    simp only [evalI] at h
    cases q : evalE a r S with
    | exc c S1 => rw [q] at h; cases h
    | bad => rw [q] at h; cases h
    | ok u S1 =>
      rw [q] at h
      simp only [Res.ok_bind] at h
      split at h
      · split at h
        · cases h; rfl
        · cases h
      · cases h
  | rg2 a b =>
    simp only [evalI] at h
    cases q : evalE a r S with
    | exc c S1 => rw [q] at h; cases h
    | bad => rw [q] at h; cases h
    | ok u S1 =>
      rw [q] at h
      simp only [Res.ok_bind] at h
      cases q2 : evalE b r S1 with
      | exc c S1 => rw [q2] at h; cases h
      | bad => rw [q2] at h; cases h
      | ok u S1 =>
        rw [q2] at h
        simp only [Res.ok_bind] at h
        split at h
        · split at h
          · cases h; rfl
          · cases h
        · cases h
  | exs a =>
    simp only [evalI] at h
    cases q : evalE a r S with
    | exc c S1 => rw [q] at h; cases h
    | bad => rw [q] at h; cases h
    | ok u S1 =>
      rw [q] at h
      simp only [Res.ok_bind] at h
      split at h
      · cases h; rfl
      · cases h
  | enm a =>
    simp only [evalI] at h
    cases q : evalE a r S with
    | exc c S1 => rw [q] at h; cases h
    | bad => rw [q] at h; cases h
    | ok u S1 =>
      rw [q] at h
      simp only [Res.ok_bind] at h
      split at h
      · cases h; rfl
      · cases h
  | zp3 ps =>
    simp only [evalI] at h
    cases q : evalEs ps r S with
    | exc c S1 => rw [q] at h; cases h
    | bad => rw [q] at h; cases h
    | ok u S1 =>
      rw [q] at h
      simp only [Res.ok_bind] at h
      split at h
      · split at h
        · cases h; rfl
        · cases h
      · cases h
theorem lcLoop_noexc {g : Option (Nat × Cell)} {f : U → Store → Res (List PyData)} (hf : ∀ u S c S', f u S ≠ .exc c S') : ∀ (us : List U) (S : Store) (c : Str) (S' : Store), lcLoop g f us S ≠ .exc c S'
  | [], S, c, S', h => by cases h
  | u :: us, S, c, S', h => by
    unfold lcLoop at h
    cases q : f u S with
    | exc c S1 => exact hf u S c S1 q
    | bad => rw [q] at h; cases h
    | ok r S1 =>
      rw [q] at h
      simp only [Res.ok_bind] at h
      split at h
      · cases q2 : lcLoop g f us S1 with
        | exc c S1 => exact lcLoop_noexc hf us _ _ _ q2
        | bad => rw [q2] at h; cases h
        | ok zs S2 => rw [q2] at h; cases h
      · cases h
theorem calm_noexc {α : Type} {r : Res α} {c : Str} {S : Store} : r.calm ≠ .exc c S := by
  cases r <;> simp [Res.calm]
end
end PD
/-! Part F: list comprehensions, cells changed by methods, methods that only read. -/
namespace PD
open PySem PySem.Spec PyProof.Rows L2
abbrev W0 : WX := fun _ _ _ _ => False
section
variable {X : Cx} {ex : ExK} {W : WX}
def DC (X : Cx) (ex : ExK) (W : WX) (o : O) (ifs : List Expr) : Prop := ∃ t, PTs X ifs t ∧ Jd X.K ex W t (evalC o) BR
theorem dc_no : DC X ex W .no [] := ⟨_, pts_nil, fun HF H0 H al S r s Q R L h => h.now R rfl⟩
theorem dc_yes {a : P} {e : Expr} (h : DT X ex W a e) : DC X ex W (.yes a) [e] := by
  obtain ⟨t, pt, jt⟩ := h
  exact ⟨_, pts_one pt, fun HF H0 H al S r s Q R L h => jt _ _ _ _ _ _ _ _ R L (by unfold evalT; simpa only [evalC] using h)⟩

/-! ### one reading for all blocks -/
abbrev Cx.bk (X : Cx) (scope : Scope) (s : Shared) (H : Hp) (C : Addr) (cl : List (Str × Addr)) (fp : List Addr) : Cx := X.blk s H scope (compEnvC scope cl C X.env) fp
def AllBk (X : Cx) (scope : Scope) (p : Cx → Prop) : Prop := ∀ s H C cl fp, p (Cx.bk X scope s H C cl fp)
theorem all_de {scope : Scope} {p : P} {e : Expr} (h : AllBk X scope fun Y => DE Y ex W0 p e) : ∃ t, AllBk X scope (fun Y => PE Y e t) ∧ Jd X.K ex W0 t (evalE p) (UP X.K ex) := by
  refine ⟨fun r H' Q => ∀ s H C cl fp, Classical.choose (h s H C cl fp) r H' Q, fun s H C cl fp => ⟨fun pins s' r H' Q I q => (Classical.choose_spec (h s H C cl fp)).1.run pins s' r H' Q I (q s H C cl fp)⟩, ?_⟩
  exact fun HF H0 H al S r s Q R L q s' H' C cl fp => (Classical.choose_spec (h s' H' C cl fp)).2 HF H0 H al S r s Q R L q
theorem all_dc {scope : Scope} {o : O} {ifs : List Expr} (h : AllBk X scope fun Y => DC Y ex W0 o ifs) : ∃ t, AllBk X scope (fun Y => PTs Y ifs t) ∧ Jd X.K ex W0 t (evalC o) BR := by
  refine ⟨fun r H' Q => ∀ s H C cl fp, Classical.choose (h s H C cl fp) r H' Q, fun s H C cl fp => ⟨fun pins s' r H' Q I q => (Classical.choose_spec (h s H C cl fp)).1.run pins s' r H' Q I (q s H C cl fp)⟩, ?_⟩
  exact fun HF H0 H al S r s Q R L q s' H' C cl fp => (Classical.choose_spec (h s' H' C cl fp)).2 HF H0 H al S r s Q R L q
theorem all_di {scope : Scope} {it : It} {tg e : Expr} (h : AllBk X scope fun Y => DI Y ex W0 it tg e) : ∃ t, AllBk X scope (fun Y => PI Y tg e t) ∧ Jd X.K ex W0 t (evalI it) (WR X.K ex) := by
  refine ⟨fun r H' Q => ∀ s H C cl fp, Classical.choose (h s H C cl fp) r H' Q, fun s H C cl fp => ⟨fun pins s' r H' Q I q => (Classical.choose_spec (h s H C cl fp)).1.run pins s' r H' Q I (q s H C cl fp)⟩, ?_⟩
  exact fun HF H0 H al S r s Q R L q s' H' C cl fp => (Classical.choose_spec (h s' H' C cl fp)).2 HF H0 H al S r s Q R L q
def GOk (K : PySem.W.Frag) (ex : ExK) (g : Tg) (t : TG) : Prop := ∀ (HF H0 H : Hp) (al : List Addr) (S : Store) (r r' : Rho) (s : L2.St) (u : U) (v : V) (Q : L2.St → Hp → Prop), Rl K ex HF H0 H al S → Sl K ex H0 al s r → UP K ex H0 al u v → setT g u r = some r' →
  (∀ s', Sl K ex H0 al s' r' → (∀ own : List Nat, (∀ i ∈ g.slots, i ∈ own) → wipe s' own = wipe s own) → Q s' H) → t v s H Q
theorem all_dg {scope : Scope} {g : Tg} {e : Expr} (h : AllBk X scope fun Y => DG Y ex g e) : ∃ t, AllBk X scope (fun Y => PG Y e t) ∧ GOk X.K ex g t := by
  refine ⟨fun v r H' Q => ∀ s H C cl fp, Classical.choose (h s H C cl fp) v r H' Q, fun s H C cl fp => ⟨fun pins s' r H' v u Q I rv q => (Classical.choose_spec (h s H C cl fp)).1.run pins s' r H' v u Q I rv (q s H C cl fp)⟩, ?_⟩
  exact fun HF H0 H al S r r' s u v Q R L hu e q s' H' C cl fp => (Classical.choose_spec (h s' H' C cl fp)).2 HF H0 H al S r r' s u v Q R L hu e q

/-! ### the turn of a comprehension: target, test, element -/
noncomputable def turnF (g : Tg) (c : O) (e : P) (r : Rho) (u : U) (S : Store) : Res (List PyData) := ((lift (setT g u r) S).bind fun r2 S2 =>
  (evalC c r2 S2).bind fun k S3 => if k then (evalE e r2 S3).bind fun z S4 => (lift (asD z) S4).bind fun x S5 => .ok [x] S5 else .ok [] S3).calm
theorem turnF_ok {g : Tg} {c : O} {e : P} {r : Rho} {u : U} {S S' : Store} {zs : List PyData} (h : turnF g c e r u S = .ok zs S') :
    ∃ r2 k S3, setT g u r = some r2 ∧ evalC c r2 S = .ok k S3 ∧ ((k = false ∧ zs = [] ∧ S' = S3) ∨ (k = true ∧ ∃ x, evalE e r2 S3 = .ok (.d x) S' ∧ zs = [x])) := by
  unfold turnF at h
  cases q : setT g u r with
  | none => rw [q] at h; cases h
  | some r2 =>
    rw [q] at h
    simp only [lift_some, Res.ok_bind] at h
    cases q2 : evalC c r2 S with
    | exc c S1 => rw [q2] at h; cases h
    | bad => rw [q2] at h; cases h
    | ok k S3 =>
      rw [q2] at h
      simp only [Res.ok_bind] at h
      refine ⟨r2, k, S3, rfl, q2, ?_⟩
      cases k with
      | false =>
        simp at h
        exact .inl ⟨rfl, by simp [h.1], by simp [h.2]⟩
      | true =>
        simp only [if_true] at h
        cases q3 : evalE e r2 S3 with
        | exc c S1 => rw [q3] at h; cases h
        | bad => rw [q3] at h; cases h
        | ok z S4 =>
          rw [q3] at h
          simp only [Res.ok_bind] at h
          cases z with
          | d x =>
            simp [asD] at h
            exact .inr ⟨rfl, x, by rw [← h.2], h.1.symm⟩
          | _ => simp [asD, Res.calm] at h
/-- what a turn asks of the machine -/
def turnT (g : TG) (tt : TT) (te : TE) (D : Addr) (own : List Nat) (s : L2.St) (x : V) (H' : Hp) (Nx : Hp → Prop) : Prop := g x (wipe s own) H' fun s2 H2 => wipe s2 own = wipe s own ∧ tt s2 H2 fun b H3 =>
  if b = true then te s2 H3 fun y H4 => ∃ acc, H4 D = some (.lst acc) ∧ acc.length < sizeLine ∧ Nx (upd H4 D (.lst (acc ++ [y]))) else Nx H3
theorem turn_ok {K : PySem.W.Frag} {g : Tg} {c : O} {e : P} {tg : TG} {tt : TT} {te : TE} (jg : GOk K ex g tg) (jt : Jd K ex W0 tt (evalC c) BR) (je : Jd K ex W0 te (evalE e) (UP K ex))
    {HF Hb H0 H : Hp} {ab al : List Addr} {D : Addr} {S S' : Store} {acc : List V} {ds zs : List PyData} {own : List Nat} {r : Rho} {s : L2.St} {u : U} {x : V} {Nx : Hp → Prop} (ho : ∀ i ∈ g.slots, i ∈ own)
    (l : LS K ex HF Hb ab D H0 H al S acc ds) (L : Sl K ex H0 al s r) (hu : UP K ex H0 al u x) (hf : turnF g c e (wipeR r own) u S = .ok zs S') (hlen : ds.length + zs.length ≤ sizeLine)
    (hn : ∀ H0'' H'' al'' acc', Same H0 H0'' → al <+: al'' → LS K ex HF Hb ab D H0'' H'' al'' S' acc' (ds ++ zs) → Nx H'') : turnT tg tt te D own s x H Nx := by
  obtain ⟨r2, k, S3, q1, q2, q3⟩ := turnF_ok hf
  refine jg _ _ _ _ _ _ _ _ _ _ _ l.R (L.wipe own) hu q1 fun s2 L2' hw => ⟨by rw [hw own ho, wipe_wipe], ?_⟩
  refine jt _ _ _ _ _ _ _ _ l.R L2' ?_
  rw [q2]
  intro b H3 H03 al3 e3 R3 hb
  rw [show b = k from hb]
  have l3 := l.step e3 R3
  rcases q3 with ⟨rfl, rfl, rfl⟩ | ⟨rfl, y, q4, rfl⟩
  · refine iteF (hn H03 H3 al3 acc e3.sub e3.pre ?_)
    rw [List.append_nil]
    exact l3
  · refine iteT (je _ _ _ _ _ _ _ _ R3 (L2'.ext e3) ?_)
    rw [q4]
    intro v H4 H04 al4 e4 R4 hv
    have l4 := l3.step e4 R4
    refine ⟨acc, R4.fr _ _ upd_same, ?_, hn H04 _ al4 _ (e3.sub.trans e4.sub) (e3.pre.trans e4.pre) (l4.app hv)⟩
    have hd := l4.ds.length
    simp at hlen
    omega
theorem LS.start {K : PySem.W.Frag} {HF H0 H : Hp} {al : List Addr} {S : Store} {D : Addr} (R : Rl K ex HF H0 H al S) (hD : H D = none) : LS K ex HF H0 al D H0 (upd H D (.lst [])) al S [] [] := by
  obtain ⟨R', h0, hF⟩ := R.frame (o := .lst []) hD
  exact ⟨R', Xt.refl, h0, hF, rfl⟩
theorem jd_lc {own : List (Str × Nat)} {g : Tg} {it : It} {c : O} {e : P} {wi : TI} {tg : TG} {tt : TT} {te : TE} (ho : ∀ i ∈ g.slots, i ∈ own.map (·.2)) (ji : Jd X.K ex W wi (evalI it) (WR X.K ex)) (jg : GOk X.K ex g tg) (jt : Jd X.K ex W0 tt (evalC c) BR) (je : Jd X.K ex W0 te (evalE e) (UP X.K ex)) :
    Jd X.K ex W (tLc wi tg tt te (own.map (·.2))) (evalE (.lc own g it c e)) (UP X.K ex) := by
  intro HF H0 H al S r s Q R L h
  have h : Post X.K ex W HF H0 al s (UP X.K ex) ((evalI it r S).bind fun w S1 => (lcLoop w.2 (turnF g c e (wipeR r (own.map (·.2)))) w.1 S1).bind fitsL) Q := by
    simp only [evalE] at h
    exact h
  refine ji _ _ _ _ _ _ _ _ R L ?_
  cases q : evalI it r S with
  | bad => rw [q] at h; exact h
  | exc c S1 => rw [q] at h; exact h
  | ok w S1 =>
    rw [q] at h
    intro J H1 H01 al1 e1 R1 y1 D hD
    have h1 := Post.shift e1 h
    simp only [Res.ok_bind] at h1
    cases q2 : lcLoop w.2 (turnF g c e (wipeR r (own.map (·.2)))) w.1 S1 with
    | bad => rw [q2] at h1; exact h1.elim
    | exc c S2 => exact (lcLoop_noexc (fun _ _ _ _ => calm_noexc) _ _ _ _ q2).elim
    | ok ys S2 =>
      rw [q2] at h1
      simp only [Res.ok_bind, fitsL] at h1
      split at h1
      · rename_i hz
        refine loop_lc (b := turnT tg tt te D (own.map (·.2)) s) y1 (LS.start R1 hD) (evalI_guard q) q2 (fun H0' H' al' S' S'' acc ds zs u x Nx sm pr l hu hf hlen hn => ?_) fun H0' H' al' acc s0 pre l => ?_
        · exact turn_ok jg jt je ho l ((L.ext e1).ext l.x) hu hf (Nat.le_trans hlen (by simpa using hz)) hn
        · obtain ⟨R2, e2, d2⟩ := l.R.unframe l.d0 l.dF l.ds
          simp only [List.nil_append] at d2
          exact h1 _ _ _ _ (l.x.trans e2) R2 d2
      · exact h1.elim
theorem jd_lc2 {own : List (Str × Nat)} {g g1 : Tg} {it it1 : It} {c : O} {e : P} {wi wi1 : TI} {tg tg1 : TG} {tt : TT} {te : TE} (ho : ∀ i ∈ g.slots, i ∈ own.map (·.2)) (ji : Jd X.K ex W wi (evalI it) (WR X.K ex)) (jg : GOk X.K ex g tg)
    (ji1 : Jd X.K ex W0 wi1 (evalI it1) (WR X.K ex)) (jg1 : GOk X.K ex g1 tg1) (jt : Jd X.K ex W0 tt (evalC c) BR) (je : Jd X.K ex W0 te (evalE e) (UP X.K ex)) :
    Jd X.K ex W (tLc2 wi tg tYes wi1 tg1 tt te (own.map (·.2)) g1.slots) (evalE (.lc2 own g it g1 it1 c e)) (UP X.K ex) := by
  intro HF H0 H al S r s Q R L h
  obtain ⟨F, hF⟩ : ∃ F : U → Store → Res (List PyData), F = fun u S2 => ((lift (setT g u (wipeR r (own.map (·.2)))) S2).bind fun r2 S2 => (evalI it1 r2 S2).bind fun w1 S3 => lcLoop w1.2 (turnF g1 c e (wipeR r2 g1.slots)) w1.1 S3).calm := ⟨_, rfl⟩
  have h : Post X.K ex W HF H0 al s (UP X.K ex) ((evalI it r S).bind fun w S1 => (lcLoop w.2 F w.1 S1).bind fitsL) Q := by
    simp only [evalE] at h
    rw [hF]
    exact h
  refine ji _ _ _ _ _ _ _ _ R L ?_
  cases q : evalI it r S with
  | bad => rw [q] at h; exact h
  | exc c S1 => rw [q] at h; exact h
  | ok w S1 =>
    rw [q] at h
    intro J H1 H01 al1 e1 R1 y1 D hD
    have h1 := Post.shift e1 h
    simp only [Res.ok_bind] at h1
    cases q2 : lcLoop w.2 F w.1 S1 with
    | bad => rw [q2] at h1; exact h1.elim
    | exc c S2 => exact (lcLoop_noexc (fun _ _ _ _ => by rw [hF]; exact calm_noexc) _ _ _ _ q2).elim
    | ok ys S2 =>
      rw [q2] at h1
      simp only [Res.ok_bind, fitsL] at h1
      split at h1
      · rename_i hz
        refine loop_lc (b := fun x H' Nx => tg x (wipe s (own.map (·.2))) H' fun s2 H2 => wipe s2 (own.map (·.2)) = wipe s (own.map (·.2)) ∧ tYes s2 H2 fun b H3 =>
          if b = true then wi1 s2 H3 fun J1 H4 => ∃ W1 : Nat → Nat → Hp → Prop, (∃ m, W1 0 m H4) ∧ ∀ j k H, W1 j k H → (J1.stop j H ∧ Nx H) ∨ (J1.go j H ∧ ∃ Nx1 : Hp → Prop, (∀ H', Nx1 H' → ∃ k', k' < k ∧ W1 (j + 1) k' H') ∧ ∀ x H', J1.yld j H x H' → turnT tg1 tt te D g1.slots s2 x H' Nx1) else Nx H3)
          y1 (LS.start R1 hD) (evalI_guard q) q2 (fun H0' H' al' S' S'' acc ds zs u x Nx sm pr l hu hf hlen hn => ?_) fun H0' H' al' acc s0 pre l => ?_
        · rw [hF] at hf
          dsimp only at hf
          cases q3 : setT g u (wipeR r (own.map (·.2))) with
          | none => rw [q3] at hf; cases hf
          | some r2 =>
            rw [q3] at hf
            simp only [lift_some, Res.ok_bind] at hf
            refine jg _ _ _ _ _ _ _ _ _ _ _ l.R (((L.ext e1).ext l.x).wipe _) hu q3 fun s2 L2' hw => ⟨by rw [hw _ ho, wipe_wipe], ?_⟩
            simp only [tYes, if_true]
            refine ji1 _ _ _ _ _ _ _ _ l.R L2' ?_
            cases q4 : evalI it1 r2 S' with
            | bad => rw [q4] at hf; cases hf
            | exc c S1 => rw [q4] at hf; cases hf
            | ok w1 S3 =>
              rw [q4] at hf
              simp only [Res.ok_bind] at hf
              intro J1 H4 H04 al4 e4 R4 y4
              have l4 := l.step e4 R4
              have q5 : lcLoop w1.2 (turnF g1 c e (wipeR r2 g1.slots)) w1.1 S3 = .ok zs S'' := by
                cases q5 : lcLoop w1.2 (turnF g1 c e (wipeR r2 g1.slots)) w1.1 S3 with
                | bad => rw [q5] at hf; cases hf
                | exc c S1 => rw [q5] at hf; cases hf
                | ok a b => rw [q5] at hf; exact hf
              refine loop_lc (b := turnT tg1 tt te D g1.slots s2) y4 l4 (evalI_guard q4) q5 (fun H0' H' al' S' S'' acc ds zs u x Nx sm5 pr5 l5 hu hf hlen2 hn => ?_) fun H05 H5 al5 acc5 s5 pre5 l5 => hn H05 H5 al5 acc5 (e4.sub.trans s5) (e4.pre.trans pre5) l5
              exact turn_ok jg1 jt je (fun i hi => hi) l5 ((L2'.ext e4).mono sm5 pr5) hu hf (Nat.le_trans hlen2 (Nat.le_trans (by simpa using hlen) (by simpa using hz))) hn
        · obtain ⟨R2, e2, d2⟩ := l.R.unframe l.d0 l.dF l.ds
          simp only [List.nil_append] at d2
          exact h1 _ _ _ _ (l.x.trans e2) R2 d2
      · exact h1.elim
end
end PD
/-! Part S: len(set(t)), t a tuple of texts. -/
namespace PD
open PySem PySem.Spec PyProof.Rows L2
section
variable {X : Cx} {ex : ExK} {W : WX}
def tLset (K : PySem.W.Frag) (ta : TE) : TE := fun s H Q => ta s H fun x H1 => ∃ (l : Addr) (xs : List Str), x = .ref l ∧ SqT K H1 l (xs.map V.str) ∧ xs.length ≤ 1000 ∧ Q (.int (distinct xs : Nat)) H1
theorem pe_lset {a : Expr} {ta : TE} {p p2 q pos : Pos} (hc : X.calm = true) (hl : BltN X "len") (hs : BltN X "set") (hn : ns a = true) (ha : PE X a ta) : PE X (.Call (.Name "len" p) [.Call (.Name "set" p2) [a] [] q] [] pos) (tLset X.K ta) := by
  refine ⟨fun pins s r H Q I h => ?_⟩
  refine Call_ (ld_blt I hl.1 hl.2 boot_len ?_)
  refine PyProof.Rows.callWith_builtin1 (PyProof.Rows.args_cons ?_ rfl) rfl rfl
  refine Call_ (ld_blt I hs.1 hs.2 boot_set ?_)
  have na : starEach [a] X.env = (false, eval a X.env) :: starEach [] X.env := star_cons hn
  refine PyProof.Rows.callWith_type1 (PyProof.Rows.args_cons (thn (ha.run pins s r H _ I h) fun v s1 ⟨x, H1, I1, r1, q1⟩ => PyProof.Rows.args_nil ?_) na) na rfl
  obtain ⟨l, xs, rfl, hq, hlen, q1⟩ := q1
  cases r1
  obtain ⟨its, rv, pl, hz⟩ := I1.tuple hq
  refine call_setS (I1.ok.hd hc) pl (by simpa using strsAre_of rv) (by unfold scanBound; omega) fun h' tk hS hk => ?_
  refine PyProof.Rows.args_nil ?_
  obtain ⟨o, es, ep, t, ho, hex, hd, _, _, _, hf, he⟩ := hS
  have I2 : Inv X pins r H1 { s1 with heap := h', toks := tk } := I1.kept fun b o e => hk b o (Heap.lt_size e) e
  have hle := cntS_le xs []
  exact call_len_set ho hex hd hf (by rw [he]; unfold distinct; omega) ⟨.int (distinct xs : Nat), H1, I2.tok _, ⟨_, by rw [he]⟩, q1⟩
theorem de_lset {a : P} {x : Expr} {p p2 q pos : Pos} (hc : X.calm = true) (hl : BltN X "len") (hs : BltN X "set") (hn : ns x = true) (ha : DE X ex W a x) : DE X ex W (.lset a) (.Call (.Name "len" p) [.Call (.Name "set" p2) [x] [] q] [] pos) := by
  obtain ⟨t, pt, jt⟩ := ha
  refine ⟨_, pe_lset hc hl hs hn pt, fun HF H0 H al S r s Q R L h => ?_⟩
  simp only [evalE] at h
  refine jt _ _ _ _ _ _ _ _ R L (h.bind fun u S1 v H1 H01 al1 e1 R1 u1 h1 => ?_)
  unfold bltU at h1
  cases q : rd S1 u with
  | none => simp [rds, q] at h1; exact h1.elim
  | some y =>
    have hy := rd_of R1 u1 q
    simp only [rds, q, Option.bind_some, Option.map_some] at h1
    cases y <;> simp only [Blt.sem] at h1 <;> try exact h1.elim
    rename_i ds
    cases q2 : strs? ds with
    | none => rw [q2] at h1; exact h1.elim
    | some ss =>
      rw [q2] at h1
      simp only [Option.bind_some] at h1
      by_cases hz : ss.length ≤ 1000
      · rw [if_pos hz] at h1
        obtain ⟨a, vs, rfl, h2, h3⟩ := hy
        obtain ⟨rfl, rfl⟩ := h3.of_strs q2
        exact ⟨a, ss, rfl, sqT_same R1.fz h2.sq, hz, h1.now R1 rfl⟩
      · rw [if_neg hz] at h1; exact h1.elim
end
end PD
/-! Part G: comprehensions as expressions; list(range(..)); methods. -/
namespace PD
open PySem PySem.Spec PyProof.Rows L2
def nset : Expr → Bool
  | .Set _ _ _ => false
  | _ => true
theorem fold_ok {e : Expr} {env : Env} {x : Value} (h : nset e = true) : foldedSetIterable e env x = pure x := by
  unfold foldedSetIterable
  cases e <;> first | rfl | cases h
section
variable {X : Cx} {ex : ExK} {W : WX}
theorem lc_parts {own : List (Str × Nat)} {g : Tg} {it : It} {c : O} {e : P} {tg iter elt : Expr} {ifs : List Expr} {scope : Scope} (ho : ∀ i ∈ g.slots, i ∈ own.map (·.2)) (hi : DI X ex W it tg iter) (hg : AllBk X scope fun Y => DG Y ex g tg) (hc : AllBk X scope fun Y => DC Y ex W0 c ifs)
    (he : AllBk X scope fun Y => DE Y ex W0 e elt) : ∃ wi tG tt te, PI X tg iter wi ∧ AllBk X scope (fun Y => PG Y tg tG) ∧ AllBk X scope (fun Y => PTs Y ifs tt) ∧ AllBk X scope (fun Y => PE Y elt te) ∧ Jd X.K ex W (tLc wi tG tt te (own.map (·.2))) (evalE (.lc own g it c e)) (UP X.K ex) := by
  obtain ⟨wi, p1, j1⟩ := hi
  obtain ⟨tG, p2, j2⟩ := all_dg hg
  obtain ⟨tt, p3, j3⟩ := all_dc hc
  obtain ⟨te, p4, j4⟩ := all_de he
  exact ⟨wi, tG, tt, te, p1, p2, p3, p4, jd_lc ho j1 j2 j3 j4⟩
theorem de_lc {own : List (Str × Nat)} {g : Tg} {it : It} {c : O} {e : P} {tg iter elt : Expr} {ifs : List Expr} {scope : Scope} {pos : Pos} (hca : X.calm = true) (hN : X.N.Nodup) (ok : BlkOk X.N X.env.scope scope own) (hs : nset iter = true) (ho : ∀ i ∈ g.slots, i ∈ own.map (·.2))
    (hi : DI X ex W it tg iter) (hg : AllBk X scope fun Y => DG Y ex g tg) (hc : AllBk X scope fun Y => DC Y ex W0 c ifs) (he : AllBk X scope fun Y => DE Y ex W0 e elt) : DE X ex W (.lc own g it c e) (.ListComp elt [⟨tg, iter, ifs, 0⟩] scope pos) := by
  obtain ⟨wi, tG, tt, te, p1, p2, p3, p4, j⟩ := lc_parts ho hi hg hc he
  exact ⟨_, pe_lc hca hN p1 ok p2 p3 p4 (fun _ => fold_ok hs), j⟩
theorem lc2_parts {own : List (Str × Nat)} {g g1 : Tg} {it it1 : It} {c : O} {e : P} {tg iter tg1 iter1 elt : Expr} {ifs : List Expr} {scope : Scope} (ho : ∀ i ∈ g.slots, i ∈ own.map (·.2)) (hi : DI X ex W it tg iter) (hg : AllBk X scope fun Y => DG Y ex g tg) (hi1 : AllBk X scope fun Y => DI Y ex W0 it1 tg1 iter1)
    (hg1 : AllBk X scope fun Y => DG Y ex g1 tg1) (hc : AllBk X scope fun Y => DC Y ex W0 c ifs) (he : AllBk X scope fun Y => DE Y ex W0 e elt) :
    ∃ wi tG wi1 tG1 tt te, PI X tg iter wi ∧ AllBk X scope (fun Y => PG Y tg tG) ∧ AllBk X scope (fun Y => PI Y tg1 iter1 wi1) ∧ AllBk X scope (fun Y => PG Y tg1 tG1) ∧ AllBk X scope (fun Y => PTs Y ifs tt) ∧ AllBk X scope (fun Y => PE Y elt te) ∧
      Jd X.K ex W (tLc2 wi tG tYes wi1 tG1 tt te (own.map (·.2)) g1.slots) (evalE (.lc2 own g it g1 it1 c e)) (UP X.K ex) := by
  obtain ⟨wi, p1, j1⟩ := hi
  obtain ⟨tG, p2, j2⟩ := all_dg hg
  obtain ⟨wi1, p5, j5⟩ := all_di hi1
  obtain ⟨tG1, p6, j6⟩ := all_dg hg1
  obtain ⟨tt, p3, j3⟩ := all_dc hc
  obtain ⟨te, p4, j4⟩ := all_de he
  exact ⟨wi, tG, wi1, tG1, tt, te, p1, p2, p5, p6, p3, p4, jd_lc2 ho j1 j2 j5 j6 j3 j4⟩
theorem de_lc2 {own : List (Str × Nat)} {g g1 : Tg} {it it1 : It} {c : O} {e : P} {tg iter tg1 iter1 elt : Expr} {ifs : List Expr} {scope : Scope} {pos : Pos} (hca : X.calm = true) (hN : X.N.Nodup) (ok : BlkOk X.N X.env.scope scope own) (hs : nset iter = true) (hs1 : nset iter1 = true)
    (ho : ∀ i ∈ g.slots, i ∈ own.map (·.2)) (ho1 : ∀ i ∈ g1.slots, i ∈ own.map (·.2)) (hi : DI X ex W it tg iter) (hg : AllBk X scope fun Y => DG Y ex g tg) (hi1 : AllBk X scope fun Y => DI Y ex W0 it1 tg1 iter1)
    (hg1 : AllBk X scope fun Y => DG Y ex g1 tg1) (hc : AllBk X scope fun Y => DC Y ex W0 c ifs) (he : AllBk X scope fun Y => DE Y ex W0 e elt) : DE X ex W (.lc2 own g it g1 it1 c e) (.ListComp elt [⟨tg, iter, [], 0⟩, ⟨tg1, iter1, ifs, 0⟩] scope pos) := by
  obtain ⟨wi, tG, wi1, tG1, tt, te, p1, p2, p5, p6, p3, p4, j⟩ := lc2_parts ho hi hg hi1 hg1 hc he
  exact ⟨_, pe_lc2 hca hN p1 ok ho1 p2 (fun _ _ _ _ _ => pts_nil) p5 p6 p3 p4 (fun _ => fold_ok hs) (fun _ _ => fold_ok hs1), j⟩

/-! ### list(range(..)) -/
theorem rg_dps {K : PySem.W.Frag} {H : Hp} (a b : Int) : DPs K H (rangeD a b) (rgV a b) := by
  unfold rangeD rgV
  generalize List.range (b - a).toNat = l
  induction l with
  | nil => exact rfl
  | cons k r ih => exact ⟨_, _, rfl, rfl, ih⟩
theorem de_lrg1 {a : P} {x : Expr} {p p2 q pos : Pos} (hca : X.calm = true) (hl : BltN X "list") (hr : BltN X "range") (hn : ns x = true) (ha : DE X ex W a x) : DE X ex W (.lrg1 a) (.Call (.Name "list" p) [.Call (.Name "range" p2) [x] [] q] [] pos) := by
  obtain ⟨t, pt, jt⟩ := ha
  refine ⟨_, pe_listRg hca hl.1 hl.2 (prg_1 hr.1 hr.2 pt (star_cons hn)), fun HF H0 H al S r s Q R L h => ?_⟩
  simp only [evalE] at h
  refine jt _ _ _ _ _ _ _ _ R L (h.bind fun u S1 v H1 H01 al1 e1 R1 u1 h1 => ?_)
  unfold bltU at h1
  cases q : rd S1 u with
  | none => simp [rds, q] at h1; exact h1.elim
  | some y =>
    have hy := rd_of R1 u1 q
    simp only [rds, q, Option.bind_some, Option.map_some] at h1
    cases y <;> simp only [Blt.sem] at h1 <;> try exact h1.elim
    rename_i n
    by_cases hz : n ≤ 100000 ∧ -100000 ≤ n
    · rw [if_pos hz] at h1
      cases hy
      refine ⟨n, rfl, ⟨by omega, by omega, by omega, by omega, by omega⟩, fun q hq => h1.newL R1 hq (rg_dps 0 n)⟩
    · rw [if_neg hz] at h1; exact h1.elim
theorem de_lrg2 {a b : P} {x y : Expr} {p p2 q pos : Pos} (hca : X.calm = true) (hl : BltN X "list") (hr : BltN X "range") (hn : ns x = true) (hn2 : ns y = true) (ha : DE X ex W a x) (hb : DE X ex W b y) : DE X ex W (.lrg2 a b) (.Call (.Name "list" p) [.Call (.Name "range" p2) [x, y] [] q] [] pos) := by
  obtain ⟨t, pt, jt⟩ := ha
  obtain ⟨t2, pt2, jt2⟩ := hb
  have na : [y].all ns = true := by simp [hn2]
  refine ⟨_, pe_listRg hca hl.1 hl.2 (prg_2 hr.1 hr.2 pt pt2 (star_cons hn) (star_cons hn2) (star_any na)), fun HF H0 H al S r s Q R L h => ?_⟩
  simp only [evalE] at h
  refine jt _ _ _ _ _ _ _ _ R L (h.bind fun u S1 v H1 H01 al1 e1 R1 u1 h1 => ?_)
  refine jt2 _ _ _ _ _ _ _ _ R1 (L.ext e1) (h1.bind fun w S2 v2 H2 H02 al2 e2 R2 u2 h2 => ?_)
  have u1' := UP.mono e2.sub e2.pre _ _ u1
  unfold bltU at h2
  cases q : rd S2 u with
  | none => simp [rds, q] at h2; exact h2.elim
  | some y =>
    cases q2 : rd S2 w with
    | none => simp [rds, q, q2] at h2; exact h2.elim
    | some z =>
      have hy := rd_of R2 u1' q
      have hz := rd_of R2 u2 q2
      simp only [rds, q, q2, Option.bind_some, Option.map_some] at h2
      cases y <;> cases z <;> simp only [Blt.sem] at h2 <;> try exact h2.elim
      rename_i m n
      by_cases hb : n ≤ 100000 ∧ -100000 ≤ m ∧ m ≤ 100000 ∧ -100000 ≤ n ∧ n - m ≤ 100000
      · rw [if_pos hb] at h2
        cases hy; cases hz
        exact ⟨m, n, rfl, rfl, ⟨by omega, by omega, by omega, by omega, by omega⟩, fun q hq => h2.newL R2 hq (rg_dps m n)⟩
      · rw [if_neg hb] at h2; exact h2.elim

/-! ### cells by their methods -/
theorem cell_of {HF H0 H : Hp} {al : List Addr} {S : Store} {r : Rho} {s : L2.St} {i n : Nat} {ds : List PyData} (R : Rl X.K ex HF H0 H al S) (L : Sl X.K ex H0 al s r) (h : cellAt r S i = some (n, ds)) :
    ∃ a vs, r[i]? = some (some (.loc n)) ∧ s[i]? = some (some (.ref a)) ∧ al[n]? = some a ∧ S[n]? = some (.lst ds) ∧ H a = some (.lst vs) ∧ DPs X.K H0 ds vs := by
  unfold cellAt at h
  split at h
  · rename_i m q1
    split at h
    · rename_i es q2
      cases h
      obtain ⟨v, h1, a, h2, rfl⟩ := L.at_ i _ q1
      obtain ⟨_, _, vs, h3, h4⟩ := R.at_ _ a _ h2 q2
      exact ⟨a, vs, q1, h1, h2, q2, h3, h4⟩
    · cases h
  · cases h
theorem few_ok {env : Env} {e : Expr} {es : List Expr} {pos : Pos} (h : (e :: es).all ns = true) (hl : (e :: es).length < 30) : ((backTo pos (starEach (e :: es) env)).all (fun x => !x.1) && (backToKw pos (keywordEach [] env)).all (fun x => x.1.isSome) && decide ((e :: es).length + ([] : List Keyword).length + (if ([] : List Keyword).isEmpty then 0 else 1) < 30)) = true := by
  rw [star_all h, show (backToKw pos (keywordEach [] env)).all (fun x => x.1.isSome) = true from rfl]
  simpa using hl
/-- x.m(e) on a list's cell: ho says what the method does once the argument is there -/
theorem de_cellM {i : Nat} {a p : P} {x : Str} {e : Expr} {m : Str} {id : String} {rr : V → List V → Hp → VK → Prop} {f : Rho → Nat → U → Store → Res U} {px apos pos : Pos} (hN : X.N[i]? = some x) (hv : Vis X.env.scope x) (hd : (x == ("__debug__" : Str)) = false) (hcd : (x == ("__classdict__" : Str)) = false)
    (slot : Slot "list" m id) (hty : typeOf (.builtin id) = pure (.type "method_descriptor")) (hm : MtR X id rr) (hl : (apos.endLine == pos.line) = true) (hn : ns e = true) (ha : DE X ex W a e)
    (hev : ∀ r S, evalE p r S = if (cellAt r S i).isSome then (evalE a r S).bind fun u S1 => f r i u S1 else .bad)
    (ho : ∀ (HF H0 H : Hp) (al : List Addr) (S : Store) (r : Rho) (s : L2.St) (Q : VK) (u : U) (v : V) (n : Nat) (c : Addr), Rl X.K ex HF H0 H al S → Sl X.K ex H0 al s r → UP X.K ex H0 al u v → r[i]? = some (some (.loc n)) → al[n]? = some c → Post X.K ex W HF H0 al s (UP X.K ex) (f r i u S) Q → rr (.ref c) [v] H Q) :
    DE X ex W p (.Call (.Attribute (.Name x px) m apos) [e] [] pos) := by
  obtain ⟨t, pt, jt⟩ := ha
  have hns : [e].all ns = true := by simp [hn]
  refine ⟨_, pe_bm PySem.F.plainAttrs_list slot hty hm (pe_var hN hv hd hcd) (pa_cons pt pa_nil (star_cons hn)) (base_ok rfl) (few_ok hns (by simp)) hl (star_cons hn) rfl, fun HF H0 H al S r s Q R L h => ?_⟩
  rw [hev] at h
  cases q : cellAt r S i with
  | none => rw [q] at h; exact h.elim
  | some o =>
    obtain ⟨n, ds⟩ := o
    rw [q] at h
    simp only [Option.isSome_some, if_true] at h
    obtain ⟨c, vs, h0, h1, h2, h3, h4, h5⟩ := cell_of R L q
    refine ⟨_, h1, .inl ⟨rfl, vs, SqL.of h4⟩, ?_⟩
    refine jt _ _ _ _ _ _ _ _ R L (h.bind fun u S1 v H1 H01 al1 e1 R1 u1 h6 => ?_)
    exact ho _ _ _ _ _ _ _ _ _ _ _ _ R1 (L.ext e1) u1 h0 (pre_get e1.pre h2) h6
theorem set_cell {HF H0 H : Hp} {al : List Addr} {S : Store} {r : Rho} {i n m : Nat} {ds : List PyData} (h0 : r[i]? = some (some (.loc n))) (q : cellAt r S i = some (m, ds)) : m = n ∧ S[n]? = some (.lst ds) := by
  unfold cellAt at q
  rw [h0] at q
  simp only at q
  split at q
  · rename_i es q2
    cases q
    exact ⟨rfl, q2⟩
  · cases q
theorem de_app {i : Nat} {a : P} {x : Str} {e : Expr} {px apos pos : Pos} (hN : X.N[i]? = some x) (hv : Vis X.env.scope x) (hd : (x == ("__debug__" : Str)) = false) (hcd : (x == ("__classdict__" : Str)) = false) (hl : (apos.endLine == pos.line) = true) (hn : ns e = true) (ha : DE X ex W a e) :
    DE X ex W (.app i a) (.Call (.Attribute (.Name x px) "append" apos) [e] [] pos) := by
  refine de_cellM (f := appU) hN hv hd hcd PySem.F.slot_list_append PySem.F.type_list_append mt_append hl hn ha (fun r S => by simp only [evalE]) fun HF H0 H al S r s Q u v n c R L hu h0 h1 h => ?_
  unfold appU at h
  split at h
  · rename_i m ds y q1 q2
    obtain ⟨rfl, h3⟩ := set_cell (HF := HF) (H0 := H0) (H := H) (al := al) h0 q1
    obtain ⟨_, _, vs, h4, h5⟩ := R.at_ _ c _ h1 h3
    have hy : DP X.K H0 y v := by
      cases u <;> simp only [asD] at q2 <;> cases q2
      exact hu
    split at h
    · rename_i hz
      refine ⟨c, vs, v, rfl, rfl, h4, by rw [← h5.length]; exact hz, ?_⟩
      exact h _ _ _ _ Xt.refl (R.put h1 h3 (h5.append (DPs.one hy))) rfl
    · exact h.elim
  · exact h.elim
theorem de_ext {i : Nat} {a : P} {x : Str} {e : Expr} {px apos pos : Pos} (hN : X.N[i]? = some x) (hv : Vis X.env.scope x) (hd : (x == ("__debug__" : Str)) = false) (hcd : (x == ("__classdict__" : Str)) = false) (hl : (apos.endLine == pos.line) = true) (hn : ns e = true) (ha : DE X ex W a e) :
    DE X ex W (.ext i a) (.Call (.Attribute (.Name x px) "extend" apos) [e] [] pos) := by
  refine de_cellM (f := extU) hN hv hd hcd PySem.F.slot_list_extend PySem.F.type_list_extend mt_extend hl hn ha (fun r S => by simp only [evalE]) fun HF H0 H al S r s Q u v n c R L hu h0 h1 h => ?_
  unfold extU at h
  split at h
  · rename_i m ds xs q1
    obtain ⟨rfl, h3⟩ := set_cell (HF := HF) (H0 := H0) (H := H) (al := al) h0 q1
    obtain ⟨_, _, vs, h4, h5⟩ := R.at_ _ c _ h1 h3
    obtain ⟨b, ws, rfl, k2, k3⟩ := hu
    split at h
    · rename_i hz
      refine ⟨c, b, vs, ws, rfl, rfl, h4, R.fz _ _ k2, by rw [← h5.length, ← k3.length]; exact hz, ?_⟩
      exact h _ _ _ _ Xt.refl (R.put h1 h3 (h5.append k3)) rfl
    · exact h.elim
  · exact h.elim
theorem seqIx {j : Int} {n : Nat} (h0 : 0 ≤ j) (h1 : j.toNat < n) : seqIndex? j n = some j.toNat := by
  have e : ixN n j = some j.toNat := by
    unfold ixN
    rw [if_pos h0, if_pos (by omega)]
  exact (ixN_seq e).1
theorem de_popA {i : Nat} {a : P} {x : Str} {e : Expr} {px apos pos : Pos} (hN : X.N[i]? = some x) (hv : Vis X.env.scope x) (hd : (x == ("__debug__" : Str)) = false) (hcd : (x == ("__classdict__" : Str)) = false) (hl : (apos.endLine == pos.line) = true) (hn : ns e = true) (ha : DE X ex W a e) :
    DE X ex W (.popA i a) (.Call (.Attribute (.Name x px) "pop" apos) [e] [] pos) := by
  refine de_cellM (f := popAU) hN hv hd hcd PySem.F.slot_list_pop PySem.F.type_list_pop mt_popAt hl hn ha (fun r S => by simp only [evalE]) fun HF H0 H al S r s Q u v n c R L hu h0 h1 h => ?_
  unfold popAU at h
  split at h
  · rename_i m ds j q1
    obtain ⟨rfl, h3⟩ := set_cell (HF := HF) (H0 := H0) (H := H) (al := al) h0 q1
    obtain ⟨_, _, vs, h4, h5⟩ := R.at_ _ c _ h1 h3
    cases hu
    split at h
    · rename_i hz
      split at h
      · rename_i y q3
        obtain ⟨w, k1, k2⟩ := h5.get q3
        obtain ⟨hlt, _⟩ := List.getElem?_eq_some_iff.mp k1
        refine ⟨c, vs, j, j.toNat, w, rfl, rfl, h4, by omega, by omega, seqIx hz.1 hlt, k1, ?_⟩
        exact h _ _ _ _ Xt.refl (R.put h1 h3 (h5.erase _)) k2
      · exact h.elim
    · exact h.elim
  · exact h.elim
theorem de_pop {i : Nat} {x : Str} {px apos pos : Pos} (hN : X.N[i]? = some x) (hv : Vis X.env.scope x) (hd : (x == ("__debug__" : Str)) = false) (hcd : (x == ("__classdict__" : Str)) = false) (hl : (apos.endLine == pos.line) = true) :
    DE X ex W (.pop i) (.Call (.Attribute (.Name x px) "pop" apos) [] [] pos) := by
  refine ⟨_, pe_bm0 PySem.F.plainAttrs_list PySem.F.slot_list_pop PySem.F.type_list_pop mt_pop (pe_var hN hv hd hcd) (base_ok rfl) hl, fun HF H0 H al S r s Q R L h => ?_⟩
  simp only [evalE] at h
  unfold popU at h
  split at h
  · rename_i n ds q
    obtain ⟨c, vs, h0, h1, h2, h3, h4, h5⟩ := cell_of R L q
    refine ⟨_, h1, .inl ⟨rfl, vs, SqL.of h4⟩, ?_⟩
    split at h
    · rename_i y q3
      obtain ⟨w, k1, k2⟩ := h5.get q3
      refine ⟨c, vs, w, rfl, rfl, h4, by rw [← h5.length]; exact k1, ?_⟩
      exact h _ _ _ _ Xt.refl (R.put h2 h3 h5.dropLast) k2
    · exact h.elim
  · exact h.elim

/-! ### methods that only read -/
def Mth.ok (X : Cx) (ex : ExK) (T : String) (id : String) (m : Mth) : Prop := ∃ r, MtR X id r ∧ ∀ (W : WX) (HF H0 H : Hp) (al : List Addr) (S : Store) (s : L2.St) (Q : VK) (x z : PyData) (xs : List PyData) (v : V) (vs : List V),
  Rl X.K ex HF H0 H al S → Rd1 X.K H0 H x v → Rd1s X.K H0 H xs vs → m.sem x xs = some z → Post X.K ex W HF H0 al s (UP X.K ex) (.ok (.d z) S) Q → r v vs H Q
def rCntP (K : PySem.W.Frag) : V → List V → Hp → VK → Prop := fun x xs H Q => ∃ (a : Addr) (y : V) (d : PyData) (ds : List PyData), x = .ref a ∧ xs = [y] ∧ Dp K H (.ref a) (.list ds) ∧ Dp K H y d ∧ d.plain = true ∧ PyData.plainAll ds = true ∧ min (PyData.depthAll ds) d.depth ≤ 64 ∧ Q (.int (countD d ds)) H
theorem mt_cntP (hu : X.A.units + 65 < cLine) : MtR X "list.count" (rCntP X.K) := by
  intro pins s r H x xs v us Q I rx rxs h
  obtain ⟨a, y, d, ds, rfl, rfl, hl, hy, pd, pds, hz, q⟩ := h
  cases rx
  obtain ⟨uy, rfl, ry⟩ := rxs.one
  obtain ⟨bs, r1⟩ := Dp.reads I d y uy hy ry
  cases hl with
  | lst hs ha =>
    obtain ⟨its, rv, ⟨⟨cls, dd, data, sl⟩, n, ho, hc, hdn, hdt⟩, hlen⟩ := I.list hs
    simp only at hc hdt
    subst hc hdt
    obtain ⟨as, h4⟩ := Dp.readsAll I ds _ its ha rv
    have hmap : its.map (SeqAt.readOf s.heap) = ds := SeqAt.readsAll_map_plain ds its as pds h4
    refine call_meets PySem.F.slot_list_count ⟨_, ho, rfl⟩ PySem.F.entry_list_count (PySem.F.args_list_count_2 _ _) (SeqAt.list_countAt a its.toArray n dd sl uy (fun u => PyData.eqv (SeqAt.readOf s.heap u) d))
      ⟨ho, SeqAt.items_plain (vs := its.toArray) (show ReadsAll s.heap its.toArray.toList ds as from h4) r1 pds pd (by omega), ?_⟩
    refine ⟨.int (countD d ds), H, I.tok _, ⟨s.toks, ?_⟩, q⟩
    have e : (its.toArray.toList.countP fun u => PyData.eqv (SeqAt.readOf s.heap u) d) = (ds.filter fun y => PyData.eqv y d).length := by
      rw [← hmap, List.filter_map, List.length_map, List.countP_eq_length_filter]
      rfl
    unfold countD
    rw [← e]
def rIdxP (K : PySem.W.Frag) : V → List V → Hp → VK → Prop := fun x xs H Q => ∃ (a : Addr) (y : V) (d : PyData) (ds : List PyData) (j : Nat), x = .ref a ∧ xs = [y] ∧ Dp K H (.ref a) (.list ds) ∧ Dp K H y d ∧ d.plain = true ∧ PyData.plainAll ds = true ∧ min (PyData.depthAll ds) d.depth ≤ 64 ∧ indexD d ds = some j ∧ Q (.int (j : Nat)) H
theorem indexD_spec {d : PyData} : ∀ {ds : List PyData} {j : Nat}, indexD d ds = some j → ∃ h : j < ds.length, PyData.eqv ds[j] d = true ∧ ∀ m (hm : m < ds.length), m < j → PyData.eqv ds[m] d = false
  | [], _, h => by cases h
  | y :: r, j, h => by
    unfold indexD at h
    split at h
    · rename_i hy
      cases h
      exact ⟨by simp, hy, fun m _ z => absurd z (Nat.not_lt_zero m)⟩
    · rename_i hy
      obtain ⟨k, q, rfl⟩ := Option.map_eq_some_iff.mp h
      obtain ⟨h1, h2, h3⟩ := indexD_spec q
      refine ⟨by simpa using h1, by simpa using h2, fun m hm z => ?_⟩
      cases m with
      | zero => simpa using hy
      | succ m => simpa using h3 m (by simpa using hm) (by omega)
theorem mt_idxP (hu : X.A.units + 65 < cLine) : MtR X "list.index" (rIdxP X.K) := by
  intro pins s r H x xs v us Q I rx rxs h
  obtain ⟨a, y, d, ds, j, rfl, rfl, hl, hy, pd, pds, hz, hj, q⟩ := h
  cases rx
  obtain ⟨uy, rfl, ry⟩ := rxs.one
  obtain ⟨bs, r1⟩ := Dp.reads I d y uy hy ry
  obtain ⟨g1, g2, g3⟩ := indexD_spec hj
  cases hl with
  | lst hs ha =>
    obtain ⟨its, rv, ⟨⟨cls, dd, data, sl⟩, n, ho, hc, hdn, hdt⟩, hlen⟩ := I.list hs
    simp only at hc hdt
    subst hc hdt
    obtain ⟨as, h4⟩ := Dp.readsAll I ds _ its ha rv
    have hmap : its.map (SeqAt.readOf s.heap) = ds := SeqAt.readsAll_map_plain ds its as pds h4
    have hl : its.length = ds.length := by rw [← hmap, List.length_map]
    have hvl := rv.length
    have hsl := sizeLine_eq
    have at_ : ∀ (m : Nat) (hm : m < its.length), SeqAt.readOf s.heap its[m] = ds[m]'(by omega) := fun m hm => by
      subst hmap
      simp
    refine call_meets PySem.F.slot_list_index ⟨_, ho, rfl⟩ PySem.F.entry_list_index (PySem.F.args_list_index_2 _ _) (SeqAt.list_indexAt a its.toArray n dd sl uy (fun u => PyData.eqv (SeqAt.readOf s.heap u) d) j (by simpa [hl] using g1) (by omega) ?_ ?_)
      ⟨ho, SeqAt.items_plain (vs := its.toArray) (show ReadsAll s.heap its.toArray.toList ds as from h4) r1 pds pd (by omega), ⟨.int (j : Nat), H, I.tok _, ⟨_, rfl⟩, q⟩⟩
    · show PyData.eqv (SeqAt.readOf s.heap (its.toArray[j]'(by simpa [hl] using g1))) d = true
      have e := at_ j (by omega)
      simp only [List.getElem_toArray]
      rw [e]
      exact g2
    · intro m hm hmj
      have hm' : m < its.length := by simpa using hm
      show PyData.eqv (SeqAt.readOf s.heap its.toArray[m]) d = false
      have e := at_ m hm'
      simp only [List.getElem_toArray]
      rw [e]
      exact g3 m (by omega) hmj
theorem count_ok (hu : X.A.units + 65 < cLine) : Mth.ok X ex "list" "list.count" .count := by
  refine ⟨_, mt_cntP hu, fun W HF H0 H al S s Q x z xs v vs R hx hxs e h => ?_⟩
  match x, xs, e with
  | .list ds, [d], e =>
    simp only [Mth.sem] at e
    split at e
    · rename_i hz
      cases e
      obtain ⟨w, rfl, hw⟩ := hxs.one
      have hp := hx.plain
      have hd := hx.dp R.fz
      obtain ⟨a, ws, rfl, _⟩ := hx
      exact ⟨a, w, d, ds, rfl, rfl, hd, hw.dp R.fz, hw.plain, hp, hz, h.now R rfl⟩
    · cases e
theorem index_ok (hu : X.A.units + 65 < cLine) : Mth.ok X ex "list" "list.index" .index := by
  refine ⟨_, mt_idxP hu, fun W HF H0 H al S s Q x z xs v vs R hx hxs e h => ?_⟩
  match x, xs, e with
  | .list ds, [d], e =>
    simp only [Mth.sem] at e
    split at e
    · rename_i hz
      obtain ⟨j, q, rfl⟩ := Option.map_eq_some_iff.mp e
      obtain ⟨w, rfl, hw⟩ := hxs.one
      have hp := hx.plain
      have hd := hx.dp R.fz
      obtain ⟨a, ws, rfl, _⟩ := hx
      exact ⟨a, w, d, ds, j, rfl, rfl, hd, hw.dp R.fz, hw.plain, hp, hz, q, h.now R rfl⟩
    · cases e
/-- o.m(e), o a list -/
theorem de_mthL {m : Mth} {a : P} {ps : Ps} {id : String} {nm : Str} {x e : Expr} {es : List Expr} {apos pos : Pos} (hm : Mth.ok X ex "list" id m) (slot : Slot "list" nm id) (hty : typeOf (.builtin id) = pure (.type "method_descriptor")) (hb : baseOk x = true) (hl : (apos.endLine == pos.line) = true) (hn : (e :: es).all ns = true)
    (hlen : (e :: es).length < 30) (hrc : ∀ S u, recvU m S u = true → ∃ ds, rd S u = some (.list ds)) (ha : DE X ex W a x) (he : DA X ex W ps (e :: es)) : DE X ex W (.mth m a ps) (.Call (.Attribute x nm apos) (e :: es) [] pos) := by
  obtain ⟨t, pt, jt⟩ := ha
  obtain ⟨t2, pt2, jt2⟩ := he
  obtain ⟨rr, hr, ho⟩ := hm
  have hn2 := hn
  simp only [List.all_cons, Bool.and_eq_true] at hn2
  refine ⟨_, pe_bm PySem.F.plainAttrs_list slot hty hr pt pt2 (base_ok hb) (few_ok hn hlen) hl (star_cons hn2.1) (star_any hn2.2), fun HF H0 H al S r s Q R L h => ?_⟩
  simp only [evalE] at h
  refine jt _ _ _ _ _ _ _ _ R L (h.bind fun u S1 v H1 H01 al1 e1 R1 u1 h1 => ?_)
  split at h1
  · rename_i hc
    obtain ⟨ds, hd⟩ := hrc _ _ hc
    obtain ⟨b, vs, rfl, k2, k3⟩ := rd_of R1 u1 hd
    refine ⟨.inl ⟨rfl, vs, k2⟩, ?_⟩
    refine jt2 _ _ _ _ _ _ _ _ R1 (L.ext e1) (h1.bind fun us S2 ws H2 H02 al2 e2 R2 us2 h2 => ?_)
    unfold mthU at h2
    split at h2
    · rename_i y ys q1 q2
      split at h2
      · rename_i z q3
        exact ho W _ _ _ _ _ _ _ _ _ _ _ _ R2 (rd_of R2 (UP.mono e2.sub e2.pre _ _ u1) q1) (rds_of R2 us2 q2) q3 h2
      · exact h2.elim
    · exact h2.elim
  · exact h1.elim
theorem recv_count {S : Store} {u : U} (h : recvU .count S u = true) : ∃ ds, rd S u = some (.list ds) := by
  cases q : rd S u with
  | none => simp [recvU, q] at h
  | some y => cases y <;> simp [recvU, q] at h ⊢
theorem recv_index {S : Store} {u : U} (h : recvU .index S u = true) : ∃ ds, rd S u = some (.list ds) := by
  cases q : rd S u with
  | none => simp [recvU, q] at h
  | some y => cases y <;> simp [recvU, q] at h ⊢
end
end PD
/-! Part H: statements. -/
namespace PD
open PySem PySem.Spec PyProof.Rows L2
section
variable (K : PySem.W.Frag) (ex : ExK) (W : WX)
def PostS (HF H0 : Hp) (al : List Addr) (o : Out) (D : Ends) : Prop := match o with
  | .next r S => ∀ s' H' H0' al', Xt HF H0 H0' al al' → Rl K ex HF H0' H' al' S → Sl K ex H0' al' s' r → D.nx s' H'
  | .ret u S => ∀ v H' H0' al', Xt HF H0 H0' al al' → Rl K ex HF H0' H' al' S → UP K ex H0' al' u v → D.rt v H'
  | .brk r S => ∀ s' H' H0' al', Xt HF H0 H0' al al' → Rl K ex HF H0' H' al' S → Sl K ex H0' al' s' r → D.bk s' H'
  | .cont r S => ∀ s' H' H0' al', Xt HF H0 H0' al al' → Rl K ex HF H0' H' al' S → Sl K ex H0' al' s' r → D.ct s' H'
  | .exc c r S => ∀ s' H' H0' al', Xt HF H0 H0' al al' → Rl K ex HF H0' H' al' S → Sl K ex H0' al' s' r → W (.ref (He.ga K c)) none s' H'
  | .bad => False
def JS (t : TS) (f : Rho → Store → Out) : Prop := ∀ (HF H0 H : Hp) (al : List Addr) (S : Store) (r : Rho) (s : L2.St) (D : Ends), Rl K ex HF H0 H al S → Sl K ex H0 al s r → PostS K ex W HF H0 al (f r S) D → t D s H
end
def DS (X : Cx) (ex : ExK) (W : WX) (p : Sx) (st : Stmt) : Prop := ∃ t, PS X st t ∧ JS X.K ex W t (evalS p)
def DSs (X : Cx) (ex : ExK) (W : WX) (p : Ss) (sts : List Stmt) : Prop := ∃ t, PSs X sts t ∧ JS X.K ex W t (evalSs p)
section
variable {K : PySem.W.Frag} {ex : ExK} {W : WX} {HF H0 H0' H : Hp} {al al' : List Addr} {s : L2.St} {S : Store} {r : Rho} {D : Ends}
theorem PostS.shift {o : Out} (e : Xt HF H0 H0' al al') (h : PostS K ex W HF H0 al o D) : PostS K ex W HF H0' al' o D := by
  cases o with
  | next r S => exact fun s' H' H0'' al'' e2 => h s' H' H0'' al'' (e.trans e2)
  | ret u S => exact fun s' H' H0'' al'' e2 => h s' H' H0'' al'' (e.trans e2)
  | brk r S => exact fun s' H' H0'' al'' e2 => h s' H' H0'' al'' (e.trans e2)
  | cont r S => exact fun s' H' H0'' al'' e2 => h s' H' H0'' al'' (e.trans e2)
  | exc c r S => exact fun s' H' H0'' al'' e2 => h s' H' H0'' al'' (e.trans e2)
  | bad => exact h
/-- an expression's part of a statement -/
theorem PostS.ofE {α β : Type} {rel : Hp → List Addr → α → β → Prop} {fa : Res α} {g : α → Store → Out} {Q : β → Hp → Prop} (L : Sl K ex H0 al s r)
    (h : PostS K ex W HF H0 al (fa.out r g) D)
    (k : ∀ a S' v H' H0' al', Xt HF H0 H0' al al' → Rl K ex HF H0' H' al' S' → rel H0' al' a v → PostS K ex W HF H0' al' (g a S') D → Q v H') : Post K ex W HF H0 al s rel fa Q := by
  cases fa with
  | ok a S1 => exact fun v H' H0' al' e R hr => k a S1 v H' H0' al' e R hr (PostS.shift e h)
  | exc c S1 => exact fun H' H0' al' e R => h s H' H0' al' e R (L.ext e)
  | bad => exact h
end
/-! ### the stores of an assignment -/
def nlc : Expr → Bool
  | .ListComp _ _ _ _ => false
  | .SetComp _ _ _ _ => false
  | .DictComp _ _ _ _ _ => false
  | _ => true
theorem sw_nlc {e : Expr} {t : Option Expr} {l : Nat} {env : Env} (h : nlc e = true) : swapsWith e t l env = pure false := by
  unfold swapsWith
  cases e <;> first | rfl | cases h
theorem sw_tup {e : Expr} {es : List Expr} {k : Nat} {p : Pos} {l : Nat} {env : Env} : swapsWith e (some (.Tuple es k p)) l env = pure false := by
  unfold swapsWith
  cases e <;> rfl
theorem sw_tup1 {e : Expr} {es : List Expr} {k : Nat} {p : Pos} {l : Nat} {env : Env} : swapsWithSole [.Tuple es k p] e l env = pure false := sw_tup (es := es) (k := k) (p := p) (l := l) (env := env)
/-- a list comprehension stored to a name that is no plain local -/
theorem sw_cell {elt : Expr} {gs : List Comprehension} {scope : Scope} {pos py : Pos} {y : Str} {l : Nat} {env : Env} (hk : env.kindOf y ≠ some .local) : swapsWith (.ListComp elt gs scope pos) (some (.Name y py)) l env = pure false := by
  unfold swapsWith
  have e : (env.kindOf y == some .local) = false := by
    cases q : env.kindOf y with
    | none => rfl
    | some k =>
      cases k <;> first | rfl | exact absurd q hk
  simp only [e, Bool.and_false, Bool.false_and]
def ntup : Expr → Bool
  | .Tuple _ _ _ => false
  | _ => true
theorem st_none {ts : List Expr} {k : Nat} {p : Pos} {e : Expr} {env : Env} (h : ntup e = true) : swappedStores [.Tuple ts k p] e env = pure none := by
  unfold swappedStores
  cases e <;> first | rfl | cases h
theorem st_name {x : Str} {p : Pos} {e : Expr} {env : Env} : swappedStores [.Name x p] e env = pure none := by
  unfold swappedStores
  cases e <;> rfl
theorem filterMap_lt {α β : Type} (f : α → Option β) : ∀ {l : List α} {a : α}, a ∈ l → f a = none → (l.filterMap f).length < l.length
  | b :: l, a, h, e => by
    rcases List.mem_cons.mp h with rfl | h
    · rw [List.filterMap_cons, e]
      exact Nat.lt_succ_of_le (List.length_filterMap_le f l)
    · have ih := filterMap_lt f h e
      rw [List.filterMap_cons]
      cases f b with
      | none => simp only [List.length_cons]; omega
      | some c => simp only [List.length_cons]; omega
/-- one of the names is captured: the tuple is made -/
theorem st_cell {ts vs : List Expr} {k k2 : Nat} {p p2 q : Pos} {x : Str} {env : Env} (hm : Expr.Name x q ∈ ts) (hk : env.kindOf x ≠ some .local) : swappedStores [.Tuple ts k p] (.Tuple vs k2 p2) env = pure none := by
  have e0 : (env.kindOf x == some NameKind.local) = false := by
    cases z : env.kindOf x with
    | none => rfl
    | some k => cases k <;> first | rfl | exact absurd z hk
  unfold swappedStores
  dsimp only
  split
  · rfl
  · split
    · rfl
    · have hlt := filterMap_lt (fun t => match t with
        | Expr.Name id pos => if (env.kindOf id == some NameKind.local && pos.line == (ts.head?.map (·.pos.line)).getD 0) = true then some id else none
        | _ => none) hm (by simp [e0])
      refine if_pos ?_
      rw [Bool.or_eq_true]
      refine .inl (bne_iff_ne.mpr ?_)
      exact Nat.ne_of_lt hlt
section
variable {X : Cx} {ex : ExK} {W : WX}
theorem dss_nil : DSs X ex W .nil [] := ⟨_, pss_nil, fun HF H0 H al S r s D R L h => h s H H0 al Xt.refl R L⟩
theorem dss_cons {a : Sx} {b : Ss} {st : Stmt} {sts : List Stmt} (h1 : DS X ex W a st) (h2 : DSs X ex W b sts) : DSs X ex W (.cons a b) (st :: sts) := by
  obtain ⟨t, pt, jt⟩ := h1
  obtain ⟨t2, pt2, jt2⟩ := h2
  refine ⟨_, pss_cons pt pt2, fun HF H0 H al S r s D R L h => ?_⟩
  simp only [evalSs] at h
  refine jt _ _ _ _ _ _ _ { D with nx := t2 D } R L ?_
  cases q : evalS a r S with
  | next r' S' =>
    rw [q] at h
    exact fun s' H' H0' al' e R' L' => jt2 _ _ _ _ _ _ _ _ R' L' (PostS.shift e h)
  | ret u S' => rw [q] at h; exact h
  | brk r S => rw [q] at h; exact h
  | cont r S => rw [q] at h; exact h
  | exc c r S => rw [q] at h; exact h
  | bad => rw [q] at h; exact h
theorem ds_pass {pos : Pos} : DS X ex W .pass (.Pass pos) := ⟨_, ps_pass, fun HF H0 H al S r s D R L h => h s H H0 al Xt.refl R L⟩
theorem ds_expr {a : P} {e : Expr} {pos : Pos} (hn : nlc e = true) (ha : DE X ex W a e) : DS X ex W (.expr a) (.Expr e pos) := by
  obtain ⟨t, pt, jt⟩ := ha
  refine ⟨_, ps_expr pt (sw_nlc hn), fun HF H0 H al S r s D R L h => ?_⟩
  simp only [evalS] at h
  exact jt _ _ _ _ _ _ _ _ R L (PostS.ofE (g := fun _ S1 => .next r S1) L h fun u S1 v H1 H01 al1 e1 R1 u1 h1 => h1 s H1 H01 al1 Xt.refl R1 (L.ext e1))
theorem ds_ret {a : P} {e : Expr} {pos : Pos} (ha : DE X ex W a e) : DS X ex W (.ret a) (.Return (some e) pos) := by
  obtain ⟨t, pt, jt⟩ := ha
  refine ⟨_, ps_ret pt, fun HF H0 H al S r s D R L h => ?_⟩
  simp only [evalS] at h
  exact jt _ _ _ _ _ _ _ _ R L (PostS.ofE (g := fun u S1 => .ret u S1) L h fun u S1 v H1 H01 al1 e1 R1 u1 h1 => h1 v H1 H01 al1 Xt.refl R1 u1)
theorem ds_retN {pos : Pos} : DS X ex W .retN (.Return none pos) := ⟨_, ps_retN, fun HF H0 H al S r s D R L h => h .non H H0 al Xt.refl R rfl⟩
theorem asg_core {te : TE} {g : Tg} {a : P} {tg : TG} (jt : Jd X.K ex W te (evalE a) (UP X.K ex)) (jg : GOk X.K ex g tg) : JS X.K ex W (tAsg te tg) (evalS (.asg g a)) := by
  intro HF H0 H al S r s D R L h
  simp only [evalS] at h
  refine jt _ _ _ _ _ _ _ _ R L (PostS.ofE (g := fun u S1 => nextO S1 (setT g u r)) L h fun u S1 v H1 H01 al1 e1 R1 u1 h1 => ?_)
  cases q : setT g u r with
  | none => rw [q] at h1; exact h1.elim
  | some r' =>
    rw [q] at h1
    exact jg _ _ _ _ _ _ _ _ _ _ _ R1 (L.ext e1) u1 q fun s' L' _ => h1 s' H1 H01 al1 Xt.refl R1 L'
theorem gname_ok {K : PySem.W.Frag} {i : Nat} : GOk K ex (.name i) (gName i) := fun HF H0 H al S r r' s u v Q R L hu e q => by
  cases e
  exact q _ (L.set hu) fun own ho => wipe_set (ho i (by simp [Tg.slots]))
theorem ds_set {i : Nat} {x : Str} {a : P} {e : Expr} {p pos : Pos} (hN : X.N.Nodup) (h : Stor X i x) (hs : swapsWith e (some (.Name x p)) pos.line X.env = pure false) (ha : DE X ex W a e) : DS X ex W (.asg (.name i) a) (.Assign [.Name x p] e pos) := by
  obtain ⟨t, pt, jt⟩ := ha
  exact ⟨_, ps_set hN h.1 h.2.1 pt hs h.2.2, asg_core jt gname_ok⟩
theorem ds_asg {g : Tg} {a : P} {tg e : Expr} {pos : Pos} (hg : DG X ex g tg) (hs : swapsWithSole [tg] e pos.line X.env = pure false) (hw : swappedStores [tg] e X.env = pure none) (h1 : (assignEach [tg] X.env).map (·.2) = [assign tg X.env]) (ha : DE X ex W a e) : DS X ex W (.asg g a) (.Assign [tg] e pos) := by
  obtain ⟨t, pt, jt⟩ := ha
  obtain ⟨tG, pG, jG⟩ := hg
  exact ⟨_, ps_asg pt pG hs hw h1, asg_core jt jG⟩
theorem ds_setLc {i : Nat} {y : Str} {py pos spos : Pos} {own : List (Str × Nat)} {g : Tg} {it : It} {c : O} {e : P} {tg iter elt : Expr} {ifs : List Expr} {scope : Scope} (hca : X.calm = true) (hN : X.N.Nodup) (hy : X.N[i]? = some y) (hyl : X.env.scope.names.lookup y = some .local)
    (hk : X.env.scope.kind = .function) (hl : (py.line == pos.line) = true) (hw : (scope.names.any fun (n, k) => n == y && (k == .local || k == .cell)) = false) (ok : BlkOk X.N X.env.scope scope own) (hs : nset iter = true) (ho : ∀ i ∈ g.slots, i ∈ own.map (·.2))
    (hi : DI X ex W it tg iter) (hg : AllBk X scope fun Y => DG Y ex g tg) (hc : AllBk X scope fun Y => DC Y ex W0 c ifs) (he : AllBk X scope fun Y => DE Y ex W0 e elt) : DS X ex W (.asg (.name i) (.lc own g it c e)) (.Assign [.Name y py] (.ListComp elt [⟨tg, iter, ifs, 0⟩] scope pos) spos) := by
  obtain ⟨wi, tG, tt, te, p1, p2, p3, p4, j⟩ := lc_parts ho hi hg hc he
  exact ⟨_, ps_setLc hca hN hy hyl (sw_true hk hyl hl hw) p1 ok p2 p3 p4 (fun _ => fold_ok hs), asg_core j gname_ok⟩
theorem ds_setLc2 {i : Nat} {y : Str} {py pos spos : Pos} {own : List (Str × Nat)} {g g1 : Tg} {it it1 : It} {c : O} {e : P} {tg iter tg1 iter1 elt : Expr} {ifs : List Expr} {scope : Scope} (hca : X.calm = true) (hN : X.N.Nodup) (hy : X.N[i]? = some y) (hyl : X.env.scope.names.lookup y = some .local)
    (hk : X.env.scope.kind = .function) (hl : (py.line == pos.line) = true) (hw : (scope.names.any fun (n, k) => n == y && (k == .local || k == .cell)) = false) (ok : BlkOk X.N X.env.scope scope own) (hs : nset iter = true) (hs1 : nset iter1 = true) (ho : ∀ i ∈ g.slots, i ∈ own.map (·.2)) (ho1 : ∀ i ∈ g1.slots, i ∈ own.map (·.2))
    (hi : DI X ex W it tg iter) (hg : AllBk X scope fun Y => DG Y ex g tg) (hi1 : AllBk X scope fun Y => DI Y ex W0 it1 tg1 iter1) (hg1 : AllBk X scope fun Y => DG Y ex g1 tg1) (hc : AllBk X scope fun Y => DC Y ex W0 c ifs) (he : AllBk X scope fun Y => DE Y ex W0 e elt) :
    DS X ex W (.asg (.name i) (.lc2 own g it g1 it1 c e)) (.Assign [.Name y py] (.ListComp elt [⟨tg, iter, [], 0⟩, ⟨tg1, iter1, ifs, 0⟩] scope pos) spos) := by
  obtain ⟨wi, tG, wi1, tG1, tt, te, p1, p2, p5, p6, p3, p4, j⟩ := lc2_parts ho hi hg hi1 hg1 hc he
  exact ⟨_, ps_setLc2 hca hN hy hyl (sw_true hk hyl hl hw) p1 ok ho1 p2 (fun _ _ _ _ _ => pts_nil) p5 p6 p3 p4 (fun _ => fold_ok hs) (fun _ _ => fold_ok hs1), asg_core j gname_ok⟩
/-- two names at once -/
theorem st_par {x y : Str} {px py pt : Pos} {kt k2 : Nat} {pt2 : Pos} {a b : Expr} {env : Env} (hk : env.scope.kind = .function) (hx : env.scope.names.lookup x = some .local) (hy : env.scope.names.lookup y = some .local) (hne : (x == y) = false) (hl : (py.line == px.line) = true) (ha : ns a = true) (hb : ns b = true)
    (hc : ([a, b].all (foldedForSure 8)) = false) (hc2 : ([a, b].all (constantsAlone 8)) = false) : swappedStores [.Tuple [.Name x px, .Name y py] kt pt] (.Tuple [a, b] k2 pt2) env = pure (some [x, y]) := by
  have kx : env.kindOf x = some .local := hx
  have ky : env.kindOf y = some .local := hy
  have hblk : env.blockKind = .function := by unfold Env.blockKind; rw [hk]; rfl
  have e1 : (List.eraseDups [x, y]).length = 2 := by
    have : [x, y].eraseDups = [x, y] := by
      rw [List.eraseDups_cons]
      have h3 : (y == x) = false := by
        rw [beq_eq_false_iff_ne] at hne ⊢
        exact fun z => hne z.symm
      simp [h3, List.eraseDups_cons]
    rw [this]; rfl
  have k3 : (some NameKind.local == some NameKind.local) = true := rfl
  have k4 : (px.line == px.line) = true := beq_self_eq_true _
  unfold swappedStores
  simp only [List.length_cons, List.length_nil, hblk, List.any_cons, List.any_nil, List.head?_cons, Option.map_some, Option.getD_some, Expr.pos, List.filterMap_cons, List.filterMap_nil, kx, ky, k3, k4, hl, Bool.and_self, if_true, e1, hc, hc2]
  cases a <;> first | (cases ha; done) | (cases b <;> first | (cases hb; done) | rfl)
theorem ds_par {i j : Nat} {x y : Str} {a b : P} {ea eb : Expr} {px py pt pos : Pos} {kt k2 : Nat} {pt2 : Pos} (hca : X.calm = true) (hN : X.N.Nodup) (hi : X.N[i]? = some x) (hj : X.N[j]? = some y) (hij : i ≠ j) (hk : X.env.scope.kind = .function) (hx : X.env.scope.names.lookup x = some .local) (hy : X.env.scope.names.lookup y = some .local)
    (hne : (x == y) = false) (hl : (py.line == px.line) = true) (hna : ns ea = true) (hnb : ns eb = true) (hc : ([ea, eb].all (foldedForSure 8)) = false) (hc2 : ([ea, eb].all (constantsAlone 8)) = false) (ha : DE X ex W a ea) (hb : DE X ex W b eb) :
    DS X ex W (.par i j a b) (.Assign [.Tuple [.Name x px, .Name y py] kt pt] (.Tuple [ea, eb] k2 pt2) pos) := by
  obtain ⟨ta, pa, ja⟩ := ha
  obtain ⟨tb, pb, jb⟩ := hb
  refine ⟨_, ps_par hca hN hi hj hij hx hy (pa_cons pa (pa_cons pb pa_nil (star_cons hnb)) (star_cons hna)) (st_par hk hx hy hne hl hna hnb hc hc2) sw_tup1, fun HF H0 H al S r s D R L h => ?_⟩
  simp only [evalS] at h
  have hp := PostS.ofE (rel := fun H0 al (p : U × U) (q : V × V) => UP X.K ex H0 al p.1 q.1 ∧ UP X.K ex H0 al p.2 q.2) (Q := fun q H' => D.nx ((s.set i (some q.1)).set j (some q.2)) H') (g := fun p S1 => .next ((r.set i (some p.1)).set j (some p.2)) S1) L h
    fun p S1 v H1 H01 al1 e1 R1 u1 h1 => h1 _ H1 H01 al1 Xt.refl R1 (((L.ext e1).set u1.1).set u1.2)
  refine ja _ _ _ _ _ _ _ _ R L (hp.bind fun u S1 v H1 H01 al1 e1 R1 u1 h1 => ?_)
  refine jb _ _ _ _ _ _ _ _ R1 (L.ext e1) (h1.bind fun w S2 v2 H2 H02 al2 e2 R2 w2 h2 => ?_)
  exact ⟨v, v2, rfl, h2.now (v := (v, v2)) R2 ⟨UP.mono e2.sub e2.pre _ _ u1, w2⟩⟩
/-- three names at once -/
theorem st_par3 {x y z : Str} {px py pz pt : Pos} {kt k2 : Nat} {pt2 : Pos} {a b d : Expr} {env : Env} (hk : env.scope.kind = .function) (hx : env.scope.names.lookup x = some .local) (hy : env.scope.names.lookup y = some .local) (hz : env.scope.names.lookup z = some .local) (hne : (x == y) = false) (hne2 : (x == z) = false) (hne3 : (y == z) = false) (hl : (py.line == px.line) = true) (hl2 : (pz.line == px.line) = true) (ha : ns a = true) (hb : ns b = true) (hd : ns d = true)
    (hc : ([a, b, d].all (foldedForSure 8)) = false) (hc2 : ([a, b, d].all (constantsAlone 8)) = false) : swappedStores [.Tuple [.Name x px, .Name y py, .Name z pz] kt pt] (.Tuple [a, b, d] k2 pt2) env = pure (some [x, y, z]) := by
  have kx : env.kindOf x = some .local := hx
  have ky : env.kindOf y = some .local := hy
  have kz : env.kindOf z = some .local := hz
  have hblk : env.blockKind = .function := by unfold Env.blockKind; rw [hk]; rfl
  have sy : ∀ {p q : Str}, (p == q) = false → (q == p) = false := fun h => by
    rw [beq_eq_false_iff_ne] at h ⊢
    exact fun e => h e.symm
  have e1 : (List.eraseDups [x, y, z]).length = 3 := by
    have : [x, y, z].eraseDups = [x, y, z] := by
      rw [List.eraseDups_cons]
      simp [sy hne, sy hne2, sy hne3, List.eraseDups_cons]
    rw [this]; rfl
  have k3 : (some NameKind.local == some NameKind.local) = true := rfl
  have k4 : (px.line == px.line) = true := beq_self_eq_true _
  have key : ∀ f : Expr → Bool, (∀ e, ns e = true → f e = false) → [a, b, d].any f = false := fun f h => by
    simp [h a ha, h b hb, h d hd]
  unfold swappedStores
  simp only [List.length_cons, List.length_nil, hblk, List.head?_cons, Option.map_some, Option.getD_some, Expr.pos, List.filterMap_cons, List.filterMap_nil, kx, ky, kz, k3, k4, hl, hl2, Bool.and_self, if_true, e1, hc, hc2]
  rw [key _ (fun e h => by cases e <;> first | rfl | cases h)]
  rfl
theorem ds_par3 {i j l : Nat} {x y z : Str} {a b d : P} {ea eb ed : Expr} {px py pz pt pos : Pos} {kt k2 : Nat} {pt2 : Pos} (hca : X.calm = true) (hN : X.N.Nodup) (hi : X.N[i]? = some x) (hj : X.N[j]? = some y) (hl' : X.N[l]? = some z) (hij : i ≠ j) (hil : i ≠ l) (hjl : j ≠ l) (hk : X.env.scope.kind = .function) (hx : X.env.scope.names.lookup x = some .local) (hy : X.env.scope.names.lookup y = some .local) (hz : X.env.scope.names.lookup z = some .local)
    (hne : (x == y) = false) (hne2 : (x == z) = false) (hne3 : (y == z) = false) (hl : (py.line == px.line) = true) (hl2 : (pz.line == px.line) = true) (hna : ns ea = true) (hnb : ns eb = true) (hnd : ns ed = true) (hc : ([ea, eb, ed].all (foldedForSure 8)) = false) (hc2 : ([ea, eb, ed].all (constantsAlone 8)) = false) (ha : DE X ex W a ea) (hb : DE X ex W b eb) (hd : DE X ex W d ed) :
    DS X ex W (.par3 i j l a b d) (.Assign [.Tuple [.Name x px, .Name y py, .Name z pz] kt pt] (.Tuple [ea, eb, ed] k2 pt2) pos) := by
  obtain ⟨ta, pa, ja⟩ := ha
  obtain ⟨tb, pb, jb⟩ := hb
  obtain ⟨td, pd, jd⟩ := hd
  refine ⟨_, ps_par3 hca hN hi hj hl' hij hil hjl hx hy hz (pa_cons pa (pa_cons pb (pa_cons pd pa_nil (star_cons hnd)) (star_cons hnb)) (star_cons hna)) (st_par3 hk hx hy hz hne hne2 hne3 hl hl2 hna hnb hnd hc hc2) sw_tup1, fun HF H0 H al S r s D R L h => ?_⟩
  simp only [evalS] at h
  have hp := PostS.ofE (rel := fun H0 al (p : U × U × U) (q : V × V × V) => UP X.K ex H0 al p.1 q.1 ∧ UP X.K ex H0 al p.2.1 q.2.1 ∧ UP X.K ex H0 al p.2.2 q.2.2) (Q := fun q H' => D.nx (((s.set i (some q.1)).set j (some q.2.1)).set l (some q.2.2)) H') (g := fun p S1 => .next (((r.set i (some p.1)).set j (some p.2.1)).set l (some p.2.2)) S1) L h
    fun p S1 v H1 H01 al1 e1 R1 u1 h1 => h1 _ H1 H01 al1 Xt.refl R1 ((((L.ext e1).set u1.1).set u1.2.1).set u1.2.2)
  refine ja _ _ _ _ _ _ _ _ R L (hp.bind fun u S1 v H1 H01 al1 e1 R1 u1 h1 => ?_)
  refine jb _ _ _ _ _ _ _ _ R1 (L.ext e1) (h1.bind fun w S2 v2 H2 H02 al2 e2 R2 w2 h2 => ?_)
  refine jd _ _ _ _ _ _ _ _ R2 ((L.ext e1).ext e2) (h2.bind fun w3 S3 v3 H3 H03 al3 e3 R3 w3' h3 => ?_)
  exact ⟨v, v2, v3, rfl, h3.now (v := (v, v2, v3)) R3 ⟨UP.mono (e2.trans e3).sub (e2.trans e3).pre _ _ u1, UP.mono e3.sub e3.pre _ _ w2, w3'⟩⟩
theorem ds_ite {c : P} {a b : Ss} {e : Expr} {sa sb : List Stmt} {pos : Pos} (hc : DT X ex W c e) (ha : DSs X ex W a sa) (hb : DSs X ex W b sb) : DS X ex W (.ite c a b) (.If e sa sb pos) := by
  obtain ⟨tc, pc, jc⟩ := hc
  obtain ⟨ta, pa, ja⟩ := ha
  obtain ⟨tb, pb, jb⟩ := hb
  refine ⟨_, ps_if pc pa pb, fun HF H0 H al S r s D R L h => ?_⟩
  simp only [evalS] at h
  refine jc _ _ _ _ _ _ _ _ R L (PostS.ofE (g := fun k S1 => if k then evalSs a r S1 else evalSs b r S1) L h fun k S1 v H1 H01 al1 e1 R1 u1 h1 => ?_)
  rw [show v = k from u1]
  cases k with
  | true => exact ja _ _ _ _ _ _ _ _ R1 (L.ext e1) h1
  | false => exact jb _ _ _ _ _ _ _ _ R1 (L.ext e1) h1

/-! ### loops -/
theorem ds_for {g : Tg} {it : It} {b : Ss} {tg iter : Expr} {body : List Stmt} {pos : Pos} (hp : PassesOwn (model X.prog X.w) X.A X.env X.xe) (hca : X.calm = true) (hs : nset iter = true) (hi : DI X ex W it tg iter) (hg : DG X ex g tg) (hb : DSs X ex W b body) : DS X ex W (.forr g it b) (.For tg iter body [] pos) := by
  obtain ⟨wi, pi, ji⟩ := hi
  obtain ⟨tG, pG, jG⟩ := hg
  obtain ⟨tb, pb, jb⟩ := hb
  refine ⟨_, ps_for hp hca pi pG pb (fun _ => fold_ok hs), fun HF H0 H al S r s D R L h => ?_⟩
  simp only [evalS] at h
  obtain ⟨f, hf⟩ : ∃ f : U → Rho → Store → Out, f = fun u r S => match setT g u r with | some r' => evalSs b r' S | none => .bad := ⟨_, rfl⟩
  have h' : PostS X.K ex W HF H0 al ((evalI it r S).out r fun w S1 => forLoop w.2 f w.1 r S1) D := by rw [hf]; exact h
  refine ji _ _ _ _ _ _ _ _ R L ?_
  cases q : evalI it r S with
  | bad => rw [q] at h'; exact h'
  | exc c S1 => rw [q] at h'; exact fun H' H0' al' e R => h' s H' H0' al' e R (L.ext e)
  | ok w S1 =>
    rw [q] at h'
    intro J H1 H01 al1 e1 R1 y1
    have h1 := PostS.shift e1 h'
    refine ⟨fun i m s' H' => m = w.1.length - i ∧ i ≤ w.1.length ∧ ∃ H0' al' S' r', Xt HF H01 H0' al1 al' ∧ Rl X.K ex HF H0' H' al' S' ∧ Sl X.K ex H0' al' s' r' ∧ keeps w.2 S' = true ∧ PostS X.K ex W HF H0' al' (forLoop w.2 f (w.1.drop i) r' S') D,
      ⟨w.1.length, by simp, Nat.zero_le _, H01, al1, S1, r, Xt.refl, R1, L.ext e1, evalI_guard q, by simpa using h1⟩, ?_⟩
    rintro i m s' H' ⟨rfl, hle, H0', al', S', r', e', R', L', kp, hrem⟩
    obtain ⟨g1, g2, g3⟩ := y1 i _ H0' H' al' S' e'.sub e'.pre R' kp
    by_cases hlt : i < w.1.length
    · refine .inr ⟨g1 hlt, _, fun s2 H2 z => z, fun x H2 hy => ?_⟩
      obtain ⟨H02, R2, e2, u2⟩ := g3 _ x H2 (List.getElem?_eq_getElem hlt) hy
      rw [List.drop_eq_getElem_cons hlt] at hrem
      simp only [forLoop] at hrem
      have hrem := PostS.shift e2 hrem
      cases q2 : setT g w.1[i] r' with
      | none =>
        have ef : f w.1[i] r' S' = .bad := by rw [hf]; simp only [q2]
        rw [ef] at hrem; exact hrem.elim
      | some r2 =>
        have ef : f w.1[i] r' S' = evalSs b r2 S' := by rw [hf]; simp only [q2]
        rw [ef] at hrem
        refine jG _ _ _ _ _ _ _ _ _ _ _ R2 (L'.ext e2) u2 q2 fun s2 L2' _ => ?_
        refine jb _ _ _ _ _ _ _ _ R2 L2' ?_
        have again : ∀ {r3 : Rho} {S3 : Store}, PostS X.K ex W HF H02 al' (if keeps w.2 S3 then forLoop w.2 f (w.1.drop (i + 1)) r3 S3 else .bad) D → ∀ s3 H3 H03 al3, Xt HF H02 H03 al' al3 → Rl X.K ex HF H03 H3 al3 S3 → Sl X.K ex H03 al3 s3 r3 →
            ∃ m', m' < w.1.length - i ∧ m' = w.1.length - (i + 1) ∧ i + 1 ≤ w.1.length ∧ ∃ H0' al' S' r', Xt HF H01 H0' al1 al' ∧ Rl X.K ex HF H0' H3 al' S' ∧ Sl X.K ex H0' al' s3 r' ∧ keeps w.2 S' = true ∧ PostS X.K ex W HF H0' al' (forLoop w.2 f (w.1.drop (i + 1)) r' S') D := by
          intro r3 S3 hq s3 H3 H03 al3 e3 R3 L3
          by_cases hk : keeps w.2 S3 = true
          · rw [if_pos hk] at hq
            exact ⟨_, by omega, rfl, hlt, H03, al3, S3, r3, (e'.trans e2).trans e3, R3, L3, hk, PostS.shift e3 hq⟩
          · rw [if_neg hk] at hq; exact hq.elim
        cases q3 : evalSs b r2 S' with
        | next r3 S3 => rw [q3] at hrem; exact again hrem
        | cont r3 S3 => rw [q3] at hrem; exact again hrem
        | brk r3 S3 => rw [q3] at hrem; exact hrem
        | ret u S3 => rw [q3] at hrem; exact hrem
        | exc c r3 S3 => rw [q3] at hrem; exact hrem
        | bad => rw [q3] at hrem; exact hrem
    · have ei : w.1.length ≤ i := by omega
      rw [List.drop_eq_nil_of_le ei] at hrem
      simp only [forLoop] at hrem
      exact .inl ⟨g2 ei, hrem s' H' H0' al' Xt.refl R' L'⟩
theorem ds_while {n : Nat} {c : P} {b : Ss} {e : Expr} {body : List Stmt} {pos : Pos} (hp : PassesOwn (model X.prog X.w) X.A X.env X.xe) (hc : DT X ex W c e) (hb : DSs X ex W b body) : DS X ex W (.whil n c b) (.While e body [] pos) := by
  obtain ⟨tc, pc, jc⟩ := hc
  obtain ⟨tb, pb, jb⟩ := hb
  refine ⟨_, ps_while hp pc pb, fun HF H0 H al S r s D R L h => ?_⟩
  simp only [evalS] at h
  obtain ⟨f, hf⟩ : ∃ f : Rho → Store → Out, f = fun r S => evalSs b r S := ⟨_, rfl⟩
  rw [← hf] at h
  refine ⟨fun m s' H' => ∃ H0' al' S' r', Xt HF H0 H0' al al' ∧ Rl X.K ex HF H0' H' al' S' ∧ Sl X.K ex H0' al' s' r' ∧ PostS X.K ex W HF H0' al' (whileLoop (fun r S => evalE c r S) f m r' S') D, ⟨n, H0, al, S, r, Xt.refl, R, L, h⟩, ?_⟩
  rintro m s' H' ⟨H0', al', S', r', e', R', L', hrem⟩
  cases m with
  | zero => exact hrem.elim
  | succ m =>
    simp only [whileLoop] at hrem
    refine jc _ _ _ _ _ _ _ _ R' L' ?_
    unfold evalT
    cases q : evalE c r' S' with
    | bad => rw [q] at hrem; exact hrem
    | exc c S1 => rw [q] at hrem; exact fun H' H0' al' e R => hrem s' H' H0' al' e R (L'.ext e)
    | ok u S1 =>
      rw [q] at hrem
      cases u with
      | d x =>
        cases x with
        | bool k =>
          simp only [Res.ok_bind, asB, lift_some]
          intro k' H1 H01 al1 e1 R1 hk
          rw [show k' = k from hk]
          have hrem := PostS.shift e1 hrem
          cases k with
          | false => exact iteF (hrem s' H1 H01 al1 Xt.refl R1 (L'.ext e1))
          | true =>
            refine iteT ⟨_, fun s2 H2 z => z, ?_⟩
            refine jb _ _ _ _ _ _ _ _ R1 (L'.ext e1) ?_
            have again : ∀ {r3 : Rho} {S3 : Store}, PostS X.K ex W HF H01 al1 (whileLoop (fun r S => evalE c r S) f m r3 S3) D → ∀ s3 H3 H03 al3, Xt HF H01 H03 al1 al3 → Rl X.K ex HF H03 H3 al3 S3 → Sl X.K ex H03 al3 s3 r3 →
                ∃ m', m' < m + 1 ∧ ∃ H0' al' S' r', Xt HF H0 H0' al al' ∧ Rl X.K ex HF H0' H3 al' S' ∧ Sl X.K ex H0' al' s3 r' ∧ PostS X.K ex W HF H0' al' (whileLoop (fun r S => evalE c r S) f m' r' S') D :=
              fun hq s3 H3 H03 al3 e3 R3 L3 => ⟨m, Nat.lt_succ_self m, H03, al3, _, _, (e'.trans e1).trans e3, R3, L3, PostS.shift e3 hq⟩
            have ef : f r' S1 = evalSs b r' S1 := by rw [hf]
            simp only [ef] at hrem
            cases q3 : evalSs b r' S1 with
            | next r3 S3 => rw [q3] at hrem; exact again hrem
            | cont r3 S3 => rw [q3] at hrem; exact again hrem
            | brk r3 S3 => rw [q3] at hrem; exact hrem
            | ret u S3 => rw [q3] at hrem; exact hrem
            | exc c r3 S3 => rw [q3] at hrem; exact hrem
            | bad => rw [q3] at hrem; exact hrem
        | _ => exact hrem.elim
      | _ => exact hrem.elim

/-! ### raise -/
/-- an exception class of the program -/
structure ExcOk (K : PySem.W.Frag) (mg : Str → Option Value) (c : Str) : Prop where
  g : mg c = some (.ref (He.ga K c))
  q : PySem.W.excIn K (He.ga K c) He.veBase "ValueError.__new__" = true
  k : PySem.W.keepIn K (.ref (He.ga K c)) = true
  s : PySem.W.subIn K (.ref (He.ga K c)) (.type "BaseException") = some true
  t : PySem.W.typeIn K (.ref (He.ga K c)) = some (.type "type")
theorem ds_rais {c m : Str} {j : Nat} {p p2 pos pos' : Pos} (hca : X.calm = true) (tk : Takes X W) (E : ExcOk X.K X.mg c) (hg : Gl X c) (hdb : (c == ("__debug__" : Str)) = false) : DS X ex W (.rais c) (.Raise (some (.Call (.Name c p) [.Constant (.str m) j p2] [] pos)) none pos') :=
  ⟨_, ps_raise hca tk (pmk_own PySem.F.excBase_ValueError E.q E.g E.k (raises_own E.s E.t) hg hdb), fun HF H0 H al S r s D R L h => h s H H0 al Xt.refl R L⟩
end
end PD
/-! Part K: tables. -/
namespace PD
open PySem PySem.Spec PyProof.Rows L2

section
variable {K : PySem.W.Frag} {H : Hp}
def TabP (K : PySem.W.Frag) (H : Hp) : TabD → List (Key × V) → Prop
  | [], ws => ws = []
  | (k, d) :: t, ws => ∃ v r, ws = (k, v) :: r ∧ DP K H d v ∧ TabP K H t r
theorem TabP.to : ∀ {t : TabD} {ws : List (Key × V)}, TabP K H t ws → ws.map (·.1) = t.map (·.1) ∧ DPs K H (t.map (·.2)) (ws.map (·.2))
  | [], _, h => by cases h; exact ⟨rfl, rfl⟩
  | (k, d) :: t, _, ⟨v, r, h1, h2, h3⟩ => by
    subst h1
    obtain ⟨a, b⟩ := TabP.to h3
    exact ⟨by simp [a], v, _, rfl, h2, b⟩
theorem TabP.of : ∀ {t : TabD} {ws : List (Key × V)}, ws.map (·.1) = t.map (·.1) → DPs K H (t.map (·.2)) (ws.map (·.2)) → TabP K H t ws
  | [], ws, a, _ => by simp at a; exact a
  | (k, d) :: t, [], a, _ => by simp at a
  | (k, d) :: t, (k', v) :: ws, a, b => by
    simp only [List.map_cons, List.cons.injEq] at a
    obtain ⟨v', r', b1, b2, b3⟩ := b
    simp only [List.map_cons, List.cons.injEq] at b1
    obtain ⟨rfl, rfl⟩ := b1
    obtain ⟨rfl, a2⟩ := a
    exact ⟨v, ws, rfl, b2, TabP.of a2 b3⟩
theorem TabP.get {k : Key} {z : PyData} : ∀ {t : TabD} {ws : List (Key × V)}, TabP K H t ws → getK t k = some z → ∃ v, valV ws k = some v ∧ DP K H z v
  | [], _, _, e => by simp [getK] at e
  | (k', d) :: t, _, ⟨v, r, h1, h2, h3⟩, e => by
    subst h1
    by_cases hk : k' = k
    · subst hk
      simp [getK] at e
      subst e
      exact ⟨v, valV_pos rfl, h2⟩
    · have e' : getK t k = some z := by simpa [getK, List.find?_cons, hk] using e
      obtain ⟨w, q1, q2⟩ := TabP.get h3 e'
      exact ⟨w, by rw [valV_neg (p := (k', v)) hk]; exact q1, q2⟩
theorem TabP.any {k : Key} : ∀ {t : TabD} {ws : List (Key × V)}, TabP K H t ws → (ws.any fun kv => decide (kv.1 = k)) = t.any fun kv => decide (kv.1 = k)
  | [], _, h => by cases h; rfl
  | (k', d) :: t, _, ⟨v, r, h1, h2, h3⟩ => by
    subst h1
    rw [List.any_cons, List.any_cons, TabP.any h3]
theorem TabP.repl {k : Key} {x : PyData} {u : V} (hx : DP K H x u) : ∀ {t : TabD} {ws : List (Key × V)}, TabP K H t ws → TabP K H (t.map fun kv => if kv.1 = k then (kv.1, x) else kv) (ws.map fun kv => if kv.1 = k then (kv.1, u) else kv)
  | [], _, h => by cases h; rfl
  | (k', d) :: t, _, ⟨v, r, h1, h2, h3⟩ => by
    subst h1
    by_cases hk : k' = k
    · subst hk
      simp only [List.map_cons, if_true]
      exact ⟨u, _, rfl, hx, TabP.repl hx h3⟩
    · simp only [List.map_cons, if_neg hk]
      exact ⟨v, _, rfl, h2, TabP.repl hx h3⟩
theorem TabP.snoc {k : Key} {x : PyData} {u : V} (hx : DP K H x u) : ∀ {t : TabD} {ws : List (Key × V)}, TabP K H t ws → TabP K H (t ++ [(k, x)]) (ws ++ [(k, u)])
  | [], _, h => by cases h; exact ⟨u, [], rfl, hx, rfl⟩
  | (k', d) :: t, _, ⟨v, r, h1, h2, h3⟩ => by
    subst h1
    exact ⟨v, _, rfl, h2, TabP.snoc hx h3⟩
theorem TabP.put {k : Key} {x : PyData} {u : V} (hx : DP K H x u) {t : TabD} {ws : List (Key × V)} (h : TabP K H t ws) : TabP K H (putD t k x) (putK ws k u) := by
  unfold putD putK
  rw [h.any]
  split
  · exact h.repl hx
  · exact h.snoc hx
theorem TabP.merge : ∀ {more : TabD} {ms : List (Key × V)} {t : TabD} {ws : List (Key × V)}, TabP K H more ms → TabP K H t ws → TabP K H (mergeD t more) (mergeK ws ms)
  | [], _, _, _, h, q => by cases h; exact q
  | (k, x) :: more, _, t, ws, ⟨v, r, h1, h2, h3⟩, q => by
    subst h1
    exact TabP.merge (t := putD t k x) (ws := putK ws k v) h3 (q.put h2)
theorem TabP.len : ∀ {t : TabD} {ws : List (Key × V)}, TabP K H t ws → ws.length = t.length
  | [], _, h => by cases h; rfl
  | _ :: _, _, ⟨_, _, h1, _, h3⟩ => by subst h1; simp [TabP.len h3]
theorem TabP.zip : ∀ {ks : List Str} {xs : List PyData} {vs : List V}, DPs K H xs vs → TabP K H ((ks.map Sum.inr).zip xs) ((ks.map Sum.inr).zip vs)
  | [], _, _, _ => rfl
  | _ :: _, [], _, h => by cases h; rfl
  | k :: ks, x :: xs, _, ⟨v, r, h1, h2, h3⟩ => by
    subst h1
    exact ⟨v, _, rfl, h2, TabP.zip h3⟩
end
section
variable {X : Cx} {ex : ExK} {W : WX}
theorem tab_of {HF H0 H : Hp} {al : List Addr} {S : Store} {u : U} {v : V} {n : Nat} {t : TabD} (R : Rl X.K ex HF H0 H al S) (hu : UP X.K ex H0 al u v) (h : tabAt S u = some (n, t)) :
    ∃ a ws, u = .loc n ∧ v = .ref a ∧ al[n]? = some a ∧ S[n]? = some (.dct t) ∧ HF a = none ∧ H0 a = none ∧ H a = some (.dK ws) ∧ TabP X.K H0 t ws := by
  cases u with
  | loc m =>
    simp only [tabAt] at h
    split at h
    · rename_i t' q
      cases h
      obtain ⟨a, h2, rfl⟩ := hu
      obtain ⟨q1, q2, ws, q3, q4, q5⟩ := R.at_ _ a _ h2 q
      exact ⟨a, ws, rfl, rfl, h2, q, q1, q2, q3, TabP.of q4 q5⟩
    · cases h
  | _ => simp [tabAt] at h
theorem key_of {K : PySem.W.Frag} {H0 : Hp} {y : PyData} {v : V} {k : Key} (h : DP K H0 y v) (e : keyD y = some k) : v = kV k := by
  cases y <;> simp only [keyD] at e <;> cases e <;> exact h
theorem nosl_ix {b : Expr} (h : ixOk b = true) : NoSl b := fun o i => by
  cases b <;> first | rfl | cases h
theorem de_dget {a b : P} {x y : Expr} {pos : Pos} (hun : X.A.units + 1 < cLine) (hy : ixOk y = true) (ha : DE X ex W a x) (hb : DE X ex W b y) : DE X ex W (.dget a b) (.Subscript x y pos) := by
  obtain ⟨ta, pa, ja⟩ := ha
  obtain ⟨tb, pb, jb⟩ := hb
  refine ⟨_, pe_dget hun pa pb (nosl_ix hy), fun HF H0 H al S r s Q R L h => ?_⟩
  simp only [evalE] at h
  refine ja _ _ _ _ _ _ _ _ R L (h.bind fun u S1 v H1 H01 al1 e1 R1 u1 h1 => ?_)
  refine jb _ _ _ _ _ _ _ _ R1 (L.ext e1) (h1.bind fun w S2 v2 H2 H02 al2 e2 R2 w2 h2 => ?_)
  unfold dgetU at h2
  split at h2
  · rename_i n t y' q1
    obtain ⟨a, ws, rfl, rfl, k1, k2, k3, k4, k5, k6⟩ := tab_of R2 (UP.mono e2.sub e2.pre _ _ u1) q1
    cases q : keyD y' with
    | none => rw [q] at h2; exact h2.elim
    | some k =>
      rw [q] at h2
      simp only [Option.bind_some] at h2
      cases q2 : getK t k with
      | none => rw [q2] at h2; exact h2.elim
      | some z =>
        rw [q2] at h2
        obtain ⟨v, g1, g2⟩ := k6.get q2
        exact ⟨a, v, rfl, .inl ⟨ws, k, .inl k5, key_of w2 q, g1.symm⟩, h2.now R2 g2⟩
  · exact h2.elim
def DKs (X : Cx) (ex : ExK) (W : WX) (pos : Pos) (ks : List Str) (ps : Ps) (keys : List (Option Expr)) (values : List Expr) : Prop := ∃ trs, PPs X pos keys values trs ∧ Jd X.K ex W (tPairs trs) (evalEs ps) (fun H0 al us prs => ∃ vs, UPs X.K ex H0 al us vs ∧ prs = (ks.map V.str).zip vs)
theorem dk_nil {pos : Pos} : DKs X ex W pos [] .nil [] [] := ⟨_, pps_nil, fun HF H0 H al S r s Q R L h => h.now R ⟨[], rfl, rfl⟩⟩
theorem dk_cons {pos : Pos} {k : Str} {ks : List Str} {p : P} {ps : Ps} {j : Nat} {kp : Pos} {v : Expr} {keys : List (Option Expr)} {values : List Expr} (h1 : DE X ex W p v) (h2 : DKs X ex W pos ks ps keys values) : DKs X ex W pos (k :: ks) (.cons p ps) (some (.Constant (.str k) j kp) :: keys) (v :: values) := by
  obtain ⟨t, pt, jt⟩ := h1
  obtain ⟨t2, pt2, jt2⟩ := h2
  refine ⟨_, pps_cons pe_str pt pt2, fun HF H0 H al S r s Q R L h => ?_⟩
  simp only [evalEs] at h
  refine jt _ _ _ _ _ _ _ _ R L (h.bind fun u S1 v H1 H01 al1 e1 R1 u1 h1 => ?_)
  refine jt2 _ _ _ _ _ _ _ _ R1 (L.ext e1) (h1.bind fun us S2 prs H2 H02 al2 e2 R2 us2 h2 => ?_)
  obtain ⟨vs, us3, rfl⟩ := us2
  exact h2.now R2 ⟨v :: vs, ⟨v, vs, rfl, UP.mono e2.sub e2.pre _ _ u1, us3⟩, rfl⟩
theorem zip_kV : ∀ (ks : List Str) (vs : List V), (ks.map V.str).zip vs = ((ks.map (Sum.inr : Str → Key)).zip vs).map fun kv => (kV kv.1, kv.2)
  | [], _ => rfl
  | _ :: _, [] => rfl
  | k :: ks, v :: vs => by
    simp only [List.map_cons, List.zip_cons_cons, zip_kV ks vs]
    rfl
theorem de_newd {pos : Pos} {ks : List Str} {ps : Ps} {keys : List (Option Expr)} {values : List Expr} (ha : DKs X ex W pos ks ps keys values) (hall : keys.all (·.isSome) = true) (hl : keys.length = values.length) (h0 : keys ≠ []) (h15 : keys.length ≤ 15) : DE X ex W (.newd ks ps) (.Dict keys values pos) := by
  obtain ⟨t, pt, jt⟩ := ha
  refine ⟨_, pe_disp pt hall hl h0 h15, fun HF H0 H al S r s Q R L h => ?_⟩
  simp only [evalE] at h
  intro p hp
  obtain ⟨R1, e1⟩ := R.pushC (c0 := .dct []) (o := .dK []) hp fun a b => ⟨a, b, [], upd_same, rfl, rfl⟩
  refine jt _ _ _ _ _ _ _ _ R1 (L.ext e1) ((Post.shift e1 h).bind fun us S1 prs H2 H02 al2 e2 R2 u2 h2 => ?_)
  obtain ⟨vs, u3, rfl⟩ := u2
  unfold newdU at h2
  split at h2
  · rename_i xs q1 q2
    have hn : al2[S.length]? = some p := pre_get e2.pre (by rw [← R.len, List.getElem?_append_right (Nat.le_refl _)]; simp)
    obtain ⟨z1, z2, ws, z3, z4, z5⟩ := R2.at_ _ p _ hn q1
    have z6 : ws = [] := by simpa using z4
    subst z6
    split at h2
    · rename_i hz
      have hd : DPs X.K H02 xs vs := UPs.to_ds u3 q2
      refine ⟨z3, (ks.map Sum.inr).zip vs, zip_kV ks vs, ?_, ?_⟩
      · rw [List.length_zip, List.length_map]; omega
      · obtain ⟨t1, t2⟩ := (TabP.merge (TabP.zip (ks := ks) hd) (t := []) (ws := []) rfl).to
        exact h2 _ _ _ _ Xt.refl (R2.putC ⟨z3, (fun _ z => nomatch z), (fun _ z => nomatch z)⟩ hn q1 z1 z2 ⟨z1, z2, _, upd_same, t1, t2⟩) ⟨p, hn, rfl⟩
    · exact h2.elim
  · exact h2.elim
theorem sw_sub {value o i : Expr} {p : Pos} {ln : Nat} {env : Env} (h : nlc value = true) : swapsWith value (some (.Subscript o i p)) ln env = pure false := by
  cases value <;> first | rfl | cases h
theorem ds_dput {a k v : P} {ea ek ev : Expr} {tp pos : Pos} (hun : X.A.units + 1 < cLine) (hn : nlc ev = true) (hv : DE X ex W v ev) (ha : DE X ex W a ea) (hk : DE X ex W k ek) :
    DS X ex W (.dput a k v) (.Assign [.Subscript ea ek tp] ev pos) := by
  obtain ⟨ta, pa, ja⟩ := ha
  obtain ⟨tk, pk, jk⟩ := hk
  obtain ⟨tv, pv, jv⟩ := hv
  refine ⟨_, ps_dput hun pa pk pv (sw_sub hn), fun HF H0 H al S r s D R L h => ?_⟩
  simp only [evalS] at h
  have hp := PostS.ofE (rel := fun H0 al (p : U) (q : Unit) => True) (Q := fun q H' => D.nx s H') (g := fun p S1 => .next r S1) L h
    fun p S1 v H1 H01 al1 e1 R1 u1 h1 => h1 _ H1 H01 al1 Xt.refl R1 (L.ext e1)
  refine jv _ _ _ _ _ _ _ _ R L (hp.bind fun z S1 vz H1 H01 al1 e1 R1 u1 h1 => ?_)
  refine ja _ _ _ _ _ _ _ _ R1 (L.ext e1) (h1.bind fun u S2 v2 H2 H02 al2 e2 R2 u2 h2 => ?_)
  refine jk _ _ _ _ _ _ _ _ R2 ((L.ext e1).ext e2) (h2.bind fun w S3 v3 H3 H03 al3 e3 R3 w3 h3 => ?_)
  unfold dputU at h3
  split at h3
  · rename_i n t y x q1 q2
    obtain ⟨a, ws, rfl, rfl, k1, k2, k3, k4, k5, k6⟩ := tab_of R3 (UP.mono e3.sub e3.pre _ _ u2) q1
    have hx : DP X.K H03 x vz := by
      cases z <;> simp only [asD] at q2 <;> cases q2
      exact UP.mono (e2.trans e3).sub (e2.trans e3).pre _ _ u1
    cases q : keyD y with
    | none => rw [q] at h3; exact h3.elim
    | some k =>
      rw [q] at h3
      simp only at h3
      split at h3
      · rename_i hz
        obtain ⟨t1, t2⟩ := (k6.put (k := k) hx).to
        refine ⟨a, _, rfl, .inl ⟨ws, k, k5, key_of w3 q, by rw [k6.len]; exact hz, rfl⟩, ?_⟩
        exact h3 () _ _ _ Xt.refl (R3.putC ⟨k5, (fun _ z => nomatch z), (fun _ z => nomatch z)⟩ k1 k2 k3 k4 ⟨k3, k4, _, upd_same, t1, t2⟩) trivial
      · exact h3.elim
  · exact h3.elim
end
end PD
/-! Part T: sorted(t), t a tuple of texts. -/
namespace PD
open PySem PySem.Spec PyProof.Rows L2

section
variable {pg : Program} {w : World} {A : Around} {E : Value → Shared → Prop} {s : Shared}
/-- what collecting a tuple leaves behind -/
def colH (h : Heap) (vs : List Value) : Heap := (h.push (seqObj "list" #[] 0)).update h.objs.size (Obj.mapSeq (· ++ vs.toArray))
theorem collT {t : Addr} {vs : List Value} {Q : List Value → Shared → Prop} (ht : IsTup s.heap t vs.toArray) (hz : vs.length ≤ sizeLine) (h : Q vs { s with heap := colH s.heap vs }) :
    wpAny (model pg w) A (collect (.ref t)) Q E s := by
  obtain ⟨o, ho, hc, n, hd⟩ := id ht
  unfold collect
  refine wpAny_bind (wpAny_runValue (codeAny_builtin entry_proto_collect' ?_))
  refine wpAny_bind (wpAny_newList (wpAny_pure ⟨Code.quiet_builtin _ (by decide +kernel), codeAny_builtin entry_list_iadd' ?_⟩) (Nat.zero_le _))
  show wpAny _ _ (Builtin.List.listExtendWith (.ref s.heap.objs.size) (.ref t) _) _ _ { s with heap := s.heap.push (seqObj "list" #[] 0) }
  unfold Builtin.List.listExtendWith
  have ho' : (s.heap.push (seqObj "list" #[] 0)).get? t = some o := Heap.get?_push_of_some _ ho
  refine wpAny_bind (wpAny_typeOf (T := "tuple") ⟨o, ho', hc⟩ ?_)
  have h1 : (Value.type "tuple" == Value.type "tuple") = true := by rfl
  rw [if_pos (by rw [h1]; simp)]
  refine wpAny_bind (listItems_at ho' hd (wpAny_bind (listItems_at (xs := #[]) (n := 0) (Heap.get?_push_size _ rfl) rfl ?_)))
  rw [if_neg (by simp)]
  refine wpAny_bind (listUpdate_at (xs := #[]) (n := 0) (Heap.get?_push_size _ rfl) rfl (wpAny_pure ?_) (Nat.zero_le _) (by show (#[] ++ vs.toArray).size ≤ _; simp only [Array.size_append, List.size_toArray, List.length_nil]; omega))
  refine wpAny_bind (wpAny_load (get?_update_seq (Heap.get?_push_size _ rfl) _) ?_)
  show wpAny _ _ (pure ((#[] : Array Value) ++ vs.toArray).toList) Q E _
  have e : ((#[] : Array Value) ++ vs.toArray).toList = vs := by simp
  rw [e]
  exact wpAny_pure h
theorem sortT {t : Addr} {vs : List Value} {ss : List Str} {Q : Value → Shared → Prop} (ht : IsTup s.heap t vs.toArray) (hS : StrsAre vs ss) (h64 : vs.length < 64)
    (h : ∀ (out : Array Value) (zs : List Str), StrsAre out.toList zs → zs.Perm ss → sortedS zs = true → Q (.ref (s.heap.objs.size + 1)) { s with heap := sortedAll s.heap vs out }) :
    wpAny (model pg w) A (call (.builtin "sorted") [.ref t]) Q E s := by
  have hz : vs.length ≤ sizeLine := by rw [sizeLine_eq]; omega
  refine Calls.call_function_entry kind_sorted plain_sorted entry_sorted (args_sorted1 _) ?_
  unfold Builtin.«sorted»
  refine wpAny_bind (wpAny_pure (wpAny_bind (collT ht hz (wpAny_bind (wpAny_newList ?_ hz)))))
  have e1 : (colH s.heap vs).objs.size = s.heap.objs.size + 1 := by rw [colH, Heap.size_update, size_push']
  have e2 : ((colH s.heap vs).push (seqObj "list" vs.toArray 0)).get? (s.heap.objs.size + 1) = some (seqObj "list" vs.toArray 0) := by
    rw [← e1]; exact Heap.get?_push_size _ rfl
  show wpAny _ _ _ _ _ { s with heap := (colH s.heap vs).push (seqObj "list" vs.toArray 0) }
  rw [e1]
  refine wpAny_bind (wpAny_holding (wpAny_call_entry slot_list_sort ⟨_, e2, rfl⟩ entry_list_sort (list_sort_treeK strKind_oneLt e2 hS.keysOf (fun v₁ v₂ rest e => keyKind_strs (by rw [← e]; exact hS)) h64 fun st' a1 a2 => ⟨_, rfl, wpAny_pure ⟨_, rfl, ?_⟩⟩) (args_list_sort _)))
  obtain ⟨zs, h1, h2, h3⟩ := sorted_out_str hS a1 a2
  exact h _ zs h1 h2 h3
end

/-! ### texts in order -/
theorem lt_tot : ∀ {a b : List Nat}, ltCps a b = false → ltCps b a = false → a = b
  | [], [], _, _ => rfl
  | [], _ :: _, h, _ => by simp [ltCps] at h
  | _ :: _, [], _, h => by simp [ltCps] at h
  | x :: r, y :: t, h1, h2 => by
    simp only [ltCps, Bool.or_eq_false_iff, decide_eq_false_iff_not, Bool.and_eq_false_iff, beq_eq_false_iff_ne] at h1 h2
    have e : x = y := by omega
    subst e
    rw [lt_tot (a := r) (b := t) (by rcases h1.2 with h | h; exact absurd rfl h; exact h) (by rcases h2.2 with h | h; exact absurd rfl h; exact h)]
theorem nlt_trans : ∀ {a b c : List Nat}, ltCps b a = false → ltCps c b = false → ltCps c a = false
  | [], b, [], _, _ => rfl
  | [], b, _ :: _, _, _ => rfl
  | _ :: _, [], _, h, _ => by simp [ltCps] at h
  | _ :: _, _ :: _, [], _, h => by simp [ltCps] at h
  | x :: r, y :: t, z :: u, h1, h2 => by
    simp only [ltCps, Bool.or_eq_false_iff, decide_eq_false_iff_not, Bool.and_eq_false_iff, beq_eq_false_iff_ne] at h1 h2 ⊢
    refine ⟨by omega, ?_⟩
    by_cases e : z = x
    · right
      have e1 : y = x := by omega
      refine nlt_trans (a := r) (b := t) (c := u) ?_ ?_
      · rcases h1.2 with h | h
        · exact absurd e1 h
        · exact h
      · rcases h2.2 with h | h
        · exact absurd (e.trans e1.symm) h
        · exact h
    · exact .inl e
def leS (x y : Str) : Prop := ltCps y.cps.toList x.cps.toList = false
theorem leS_tot {x y : Str} (h1 : leS x y) (h2 : leS y x) : x = y := by
  have := lt_tot h1 h2
  cases x; cases y
  simp only [Str.mk.injEq]
  exact Array.toList_inj.mp this.symm
theorem rising_pw : ∀ (l : List Str) (p : Str), risingS p l = true → (p :: l).Pairwise leS
  | [], _, _ => by simp
  | x :: r, p, h => by
    simp only [risingS, Bool.and_eq_true, Bool.not_eq_true'] at h
    have ih := rising_pw r x h.2
    refine List.Pairwise.cons (fun y hy => ?_) ih
    rcases List.mem_cons.mp hy with rfl | hy
    · exact h.1
    · exact nlt_trans h.1 ((List.pairwise_cons.mp ih).1 y hy)
theorem sorted_pw {l : List Str} (h : sortedS l = true) : l.Pairwise leS := by
  cases l with
  | nil => simp
  | cons x r => exact rising_pw r x h
theorem sort_uniq : ∀ {xs ys : List Str}, xs.Perm ys → xs.Pairwise leS → ys.Pairwise leS → xs = ys
  | [], ys, h, _, _ => (List.nil_perm.mp h).symm
  | x :: xs, [], h, _, _ => absurd h.length_eq (by simp)
  | x :: xs, y :: ys, h, h1, h2 => by
    have hx : x ∈ y :: ys := h.mem_iff.mp (by simp)
    have hy : y ∈ x :: xs := h.mem_iff.mpr (by simp)
    have e : x = y := by
      rcases List.mem_cons.mp hx with e | hx
      · exact e
      · rcases List.mem_cons.mp hy with e | hy
        · exact e.symm
        · exact leS_tot ((List.pairwise_cons.mp h1).1 y hy) ((List.pairwise_cons.mp h2).1 x hx)
    subst e
    rw [sort_uniq (List.Perm.cons_inv h) (List.pairwise_cons.mp h1).2 (List.pairwise_cons.mp h2).2]
theorem insS_perm (x : Str) : ∀ l : List Str, (insS x l).Perm (x :: l)
  | [] => List.Perm.refl _
  | y :: r => by
    unfold insS
    split
    · exact ((insS_perm x r).cons y).trans (List.Perm.swap _ _ _)
    · exact List.Perm.refl _
theorem sortStr_perm : ∀ l : List Str, (sortStr l).Perm l
  | [] => List.Perm.refl _
  | x :: r => (insS_perm x _).trans ((sortStr_perm r).cons x)
theorem nlt_of {a b : List Nat} : ltCps a b = true → ltCps b a = false := fun h => by
  cases q : ltCps b a with
  | false => rfl
  | true =>
    exfalso
    induction a generalizing b with
    | nil => cases b <;> simp [ltCps] at q h
    | cons x r ih =>
      cases b with
      | nil => simp [ltCps] at h
      | cons y t =>
        simp only [ltCps, Bool.or_eq_true, decide_eq_true_eq, Bool.and_eq_true, beq_iff_eq] at h q
        rcases h with h | ⟨rfl, h⟩
        · rcases q with q | ⟨q, _⟩ <;> omega
        · rcases q with q | ⟨_, q⟩
          · omega
          · exact ih h q
theorem insS_pw (x : Str) : ∀ l : List Str, l.Pairwise leS → (insS x l).Pairwise leS
  | [], _ => by simp [insS]
  | y :: r, h => by
    unfold insS
    obtain ⟨h1, h2⟩ := List.pairwise_cons.mp h
    split
    · rename_i c
      refine List.Pairwise.cons (fun z hz => ?_) (insS_pw x r h2)
      rcases List.mem_cons.mp ((insS_perm x r).mem_iff.mp hz) with rfl | hz
      · exact nlt_of c
      · exact h1 z hz
    · rename_i c
      have hxy : leS x y := by simpa [leS] using c
      refine List.Pairwise.cons (fun z hz => ?_) h
      rcases List.mem_cons.mp hz with rfl | hz
      · exact hxy
      · exact nlt_trans hxy (h1 z hz)
theorem sortStr_pw : ∀ l : List Str, (sortStr l).Pairwise leS
  | [] => by simp [sortStr]
  | x :: r => insS_pw x _ (sortStr_pw r)
theorem sort_eq {xs ys : List Str} (h : ys.Perm xs) (hs : sortedS ys = true) : ys = sortStr xs := sort_uniq (h.trans (sortStr_perm xs).symm) (sorted_pw hs) (sortStr_pw xs)
section
variable {X : Cx} {ex : ExK}
def rSortT (K : PySem.W.Frag) : List V → Hp → VK → Prop := fun vs H Q => ∃ (a : Addr) (xs : List Str), vs = [V.ref a] ∧ SqT K H a (xs.map V.str) ∧ xs.length < 64 ∧ ∀ p, H p = none → Q (.ref p) (upd H p (.lst ((sortStr xs).map V.str)))
theorem cr_sortT : CallR X (.builtin "sorted") (rSortT X.K) := by
  intro pins s r H vs us Q I rv h
  obtain ⟨a, xs, rfl, hq, h64, q⟩ := h
  obtain ⟨its, ri, pl, hz⟩ := I.tuple hq
  rw [Vals.ref1 rv]
  have hl := ri.length
  rw [List.length_map] at hl
  refine sortT pl ri.strs (by rw [← hl]; exact h64) fun out zs h1 h2 h3 => ?_
  have hzs := sort_eq h2 h3
  subst hzs
  obtain ⟨ep, he⟩ := sortedAll_at s.heap its out
  have hlen : ((sortStr xs).map V.str).length ≤ sizeLine := by rw [List.length_map, h2.length_eq]; exact small64 h64
  exact ⟨.ref _, upd H (s.heap.objs.size + 1) (.lst ((sortStr xs).map V.str)), I.laid (t' := s.toks) (fun _ _ => sortedAll_old) (Nat.le_succ _) ⟨hlen, out.toList, ep, vals_of_strs h1, he⟩, rfl, q _ (I.hok.fresh (Nat.le_succ _))⟩
theorem sortS_ok : Blt.ok X ex (.builtin "sorted") .sortS := by
  refine ⟨_, cr_sortT, fun W HF H0 H al S s Q xs z vs R hx e h => ?_⟩
  match xs, e with
  | [.tuple ds], e =>
    obtain ⟨ss, q, e⟩ := Option.bind_eq_some_iff.mp e
    split at e
    · rename_i h64
      cases e
      obtain ⟨v, rfl, a, ws, rfl, h2, h3⟩ := hx.one
      obtain ⟨rfl, rfl⟩ := h3.of_strs q
      exact ⟨a, ss, rfl, sqT_same R.fz h2.sq, h64, fun p hp => h.newL R hp (DPs.strs _)⟩
    · cases e
end
end PD
/-! Part U: reversed copies; one of several defs called; try; what a caught error is. -/
namespace PD
open PySem PySem.Spec PyProof.Rows L2

/-! ### t[::-1] of a tuple -/
section
variable {prog : Program} {w : World} {A : Around} {E : Value → Shared → Prop} {s : Shared}
theorem sliceBack {sl : Addr} {vs : Value} {n : Nat} {Q : Int × Int × Nat → Shared → Prop} (hs : s.heap.IsSliceOf sl .none .none vs) (ps : IsPart vs (some (-1))) (h : Q ((n : Int) - 1, -1, n) s) :
    wpAny (model prog w) A (Builtin.Slice.sliceApplied (.ref sl) (pure (n : Int))) Q E s := by
  obtain ⟨os, hos, hcs, hds⟩ := id hs
  unfold Builtin.Slice.sliceApplied Builtin.Slice.sliceFields
  refine wpAny_bind (wpAny_bind (wpAny_field hos hds (x := .none) rfl (wpAny_bind (wpAny_field hos hds (x := .none) rfl (wpAny_bind (wpAny_field hos hds (x := vs) rfl (wpAny_pure ?_)))))))
  refine wpAny_bind (HT.slicePart_ ps ?_)
  show wpAny _ _ (if ((-1 : Int) == 0) = true then _ else _) _ _ s
  rw [if_neg (by decide)]
  refine wpAny_bind (HT.slicePart_ .none (wpAny_bind (HT.slicePart_ .none (wpAny_bind (wpAny_pure ?_)))))
  show wpAny _ _ (pure ((n : Int) - 1, (-1 : Int), Builtin.Slice.slicePlaces ((n : Int) - 1) (-1) (-1))) _ _ s
  have e : Builtin.Slice.slicePlaces ((n : Int) - 1) (-1) (-1) = n := by
    unfold Builtin.Slice.slicePlaces
    rw [if_neg (by decide)]
    split
    · rw [show (- -1 : Int) = 1 from rfl, Int.ediv_one]; omega
    · omega
  rw [e]
  exact wpAny_pure h
theorem fm_some {α β : Type} {f : α → Option β} {g : α → β} : ∀ {l : List α}, (∀ a ∈ l, f a = some (g a)) → l.filterMap f = l.map g
  | [], _ => rfl
  | a :: l, h => by rw [List.filterMap_cons, h a List.mem_cons_self, fm_some fun b hb => h b (List.mem_cons_of_mem _ hb)]; rfl
theorem pickBack (xs : Array Value) : ((List.range xs.size).filterMap fun (k : Nat) => xs[(((xs.size : Nat) : Int) - 1 + (k : Int) * (-1)).toNat]?).toArray = xs.toList.reverse.toArray := by
  congr 1
  have h : ∀ k ∈ List.range xs.size, xs[(((xs.size : Nat) : Int) - 1 + (k : Int) * (-1)).toNat]? = some (xs.toList.reverse.getD k .none) := by
    intro k hk
    have hk := List.mem_range.mp hk
    have e1 : (((xs.size : Nat) : Int) - 1 + (k : Int) * (-1)).toNat = xs.size - 1 - k := by omega
    rw [e1]
    have h2 : xs.size - 1 - k < xs.size := by omega
    have h3 : k < xs.toList.reverse.length := by simpa using hk
    rw [Array.getElem?_eq_getElem h2, List.getD_eq_getElem?_getD, List.getElem?_eq_getElem h3, List.getElem_reverse]
    simp
  rw [fm_some h]
  refine List.ext_getElem (by simp) fun k h1 h2 => ?_
  rw [List.getElem_map, List.getElem_range, List.getD_eq_getElem?_getD, List.getElem?_eq_getElem h2]
  rfl
theorem getItem_tuple_back {t sl : Addr} {items : Array Value} {vs : Value} {Q : Value → Shared → Prop} (ht : IsTup s.heap t items) (hs : s.heap.IsSliceOf sl .none .none vs) (ps : IsPart vs (some (-1)))
    (h : Q (.ref s.heap.objs.size) { s with heap := s.heap.push { cls := .type "tuple", data := .seq items.toList.reverse.toArray } }) (hsz : items.size ≤ sizeLine) : wpAny (model prog w) A (getItem (.ref t) (.ref sl)) Q E s := by
  have htake : sizeOk (.seq items.toList.reverse.toArray) := by
    show items.toList.reverse.toArray.size ≤ sizeLine
    rw [List.size_toArray, List.length_reverse, Array.length_toList]
    exact hsz
  obtain ⟨os, hos, hcs, hds⟩ := id hs
  have hTs : s.TypeIs (.ref sl) "slice" := ⟨os, hos, hcs⟩
  unfold getItem
  try with_reducible refine wpAny_holding ?_
  first | refine wpAny_bind (wpAny_pure ?_) | skip
  refine wpAny_bind (wpAny_sequenceKey ht.typeIs (by decide) ?_)
  refine wpAny_bind (wpAny_callSpecial?_slot (name := Str.ofString "__getitem__") ht.typeIs PyProof.Rows.slot_tuple_getitem
    (wpAny_call_entry PyProof.Rows.slot_tuple_getitem ht.typeIs entry_tuple_getitem ?_ (args_tuple_getitem _ _)))
  show wpAny _ _ (Builtin.Tuple.tupleItemsOf (.ref t) >>= _) _ _ s
  refine wpAny_bind (tupleItemsOf_ ht ?_)
  refine wpAny_bind (wpAny_typeOf hTs ?_)
  rw [if_pos (by decide)]
  refine wpAny_bind (sliceBack hs ps ?_)
  have hno : ¬ ((((items.size : Nat) : Int) - 1 == 0 && (-1 : Int) == 1 && items.size == items.size) = true) := by
    intro q
    rw [Bool.and_eq_true, Bool.and_eq_true] at q
    exact absurd q.1.2 (by decide)
  show wpAny _ _ (if (((items.size : Nat) : Int) - 1 == 0 && (-1 : Int) == 1 && items.size == items.size) = true then _ else _) _ _ s
  rw [if_neg hno, pickBack]
  first
    | exact wpAny_bind (m := Builtin.Tuple.tupleExact _) (wpAny_newObj_type (wpAny_pure ⟨_, rfl, wpAny_pure h⟩) htake)
    | exact wpAny_bind (m := Builtin.Tuple.tupleExact _) (wpAny_newObj_type (wpAny_bind (wpAny_pure (wpAny_pure ⟨_, rfl, wpAny_pure h⟩))) htake)
end
section
variable {X : Cx} {ex : ExK} {W : WX}
def tBack (K : PySem.W.Frag) (te : TE) : TE := fun σ H Q => te σ H fun x H1 => ∃ a xs, x = .ref a ∧ ((SqL K H1 a xs ∧ ∀ p, H1 p = none → Q (.ref p) (upd H1 p (.lst xs.reverse))) ∨ (SqT K H1 a xs ∧ ∀ p, H1 p = none → Q (.ref p) (upd H1 p (.tup xs.reverse))))
theorem pe_back {e : Expr} {te : TE} {k : Nat} {p1 p2 p3 pos : Pos} (he : PE X e te) : PE X (.Subscript e (.Slice none none (some (.UnaryOp .USub (.Constant (.int 1) k p1) p2)) p3) pos) (tBack X.K te) := by
  refine ⟨fun pins s σ H Q I h => ?_⟩
  refine Subscript_ (thn (he.run pins s σ H _ I h) fun v s1 ⟨x, H1, I1, r1, q1⟩ => ?_)
  obtain ⟨a, xs, ex, hx⟩ := q1
  subst ex
  cases r1
  have hst : PO X (some (.UnaryOp .USub (.Constant (.int 1) k p1) p2)) (tPart (tUn (rU fun i => .int (-i)) (tC (.int 1)))) := po_some (pe_un un_neg pe_int)
  refine wpAny_Slice (thn (po_none.run pins s1 σ H1 (fun o H2 => o = none ∧ H2 = H1) I1 ⟨rfl, rfl⟩) fun vl s2 ⟨l, H2, I2, pl, el, e2⟩ => ?_)
  subst el e2
  refine thn (po_none.run pins s2 σ H2 (fun o H3 => o = none ∧ H3 = H2) I2 ⟨rfl, rfl⟩) fun vu s3 ⟨u, H3, I3, pu, eu, e3⟩ => ?_
  subst eu e3
  refine thn (hst.run pins s3 σ H3 (fun o H4 => o = some (-1) ∧ H4 = H3) I3 ⟨1, rfl, -1, rfl, rfl, rfl⟩) fun vs s4 ⟨o, H4, I4, ps, eo, e4⟩ => ?_
  subst eo e4
  have I5 : Inv X pins σ H4 { s4 with heap := s4.heap.push { cls := .type "slice", data := .fields #[vl, vu, vs] } } := I4.kept (t' := s4.toks) fun b ob q => Heap.get?_push_of_some _ q
  show wpAny (model X.prog X.w) X.A (subscriptTail e (.Slice none none (some (.UnaryOp .USub (.Constant (.int 1) k p1) p2)) p3) (.ref a) (.ref s4.heap.objs.size)) (EP X pins σ Q) X.xe { s4 with heap := s4.heap.push { cls := .type "slice", data := .fields #[vl, vu, vs] } }
  rcases hx with ⟨hx, q⟩ | ⟨hx, q⟩
  · obtain ⟨its, r, ht, hz⟩ := I5.list hx
    have hlen := r.length
    refine tail_any (ops := [.ref a, .ref s4.heap.objs.size]) ht.isList.typeIs (PySem.slot_list_getitem.lookup) ?_ (by with_unfolding_all rfl)
    refine wpAny_getItem_list_slice ht.isList (Heap.IsSliceOf.new _ vl vu vs) pl pu ps (by decide) ?_ (by rw [List.size_toArray]; omega)
    rw [PySem.W.krv_pick]
    refine ⟨.ref _, _, I5.laid (t' := s4.toks) (o := .lst xs.reverse) (fun b ob q => Heap.get?_push_of_some _ q) (Nat.le_refl _) ?_, rfl, q _ (I5.hok.fresh (Nat.le_refl _))⟩
    exact ⟨by rw [List.length_reverse]; exact hz, _, 0, r.reverse, Heap.get?_push_size _ rfl⟩
  · obtain ⟨its, r, ht, hz⟩ := I5.tuple hx
    have hlen := r.length
    cases pl
    cases pu
    refine tail_any (ops := [.ref a, .ref s4.heap.objs.size]) ht.typeIs (PyProof.Rows.slot_tuple_getitem.lookup) ?_ (by with_unfolding_all rfl)
    refine getItem_tuple_back ht (Heap.IsSliceOf.new _ _ _ vs) ps ?_ (by rw [List.size_toArray]; omega)
    refine ⟨.ref _, _, I5.laid (t' := s4.toks) (o := .tup xs.reverse) (fun b ob q => Heap.get?_push_of_some _ q) (Nat.le_refl _) ?_, rfl, q _ (I5.hok.fresh (Nat.le_refl _))⟩
    exact ⟨by rw [List.length_reverse]; exact hz, _, r.reverse, IsTup.new _ _⟩
theorem de_rev {a : P} {x : Expr} {k : Nat} {p1 p2 p3 pos : Pos} (ha : DE X ex W a x) : DE X ex W (.rev a) (.Subscript x (.Slice none none (some (.UnaryOp .USub (.Constant (.int 1) k p1) p2)) p3) pos) := by
  obtain ⟨ta, pa, ja⟩ := ha
  refine ⟨_, pe_back pa, fun HF H0 H al S r s Q R L h => ?_⟩
  simp only [evalE] at h
  refine ja _ _ _ _ _ _ _ _ R L (h.bind fun u S1 v H1 H01 al1 e1 R1 u1 h1 => ?_)
  unfold revU at h1
  split at h1
  · rename_i y q
    have hy := rd_of R1 u1 q
    split at h1
    · rename_i z q2
      cases y <;> simp only [revD] at q2 <;> try cases q2
      · obtain ⟨a, vs, rfl, k2, k3⟩ := hy
        exact ⟨a, vs, rfl, .inl ⟨k2, fun p hp => h1.newL R1 hp k3.reverse⟩⟩
      · obtain ⟨a, vs, rfl, k2, k3⟩ := hy
        split at q2
        · rename_i hs
          cases q2
          exact ⟨a, vs, rfl, .inr ⟨sqT_same R1.fz k2.sq, fun p hp => h1.newT R1 hp hs k3.reverse⟩⟩
        · cases q2
    · exact h1.elim
  · exact h1.elim

/-! ### one of several defs -/
def tPickF (S : Addr → Sp → Prop) (E : L2.St → XK) (tf : TE) (t : TA) : TE := fun σ H Q => tf σ H fun y H1 => ∃ f sp, y = .ref f ∧ S f sp ∧ t σ H1 fun vs H2 => sp vs H2 Q (E σ)
theorem pe_pickF {k : Nat} {fe e : Expr} {es : List Expr} {tf : TE} {t : TA} {pos : Pos} {S : Addr → Sp → Prop} {E : L2.St → XK} (hf : PE X fe tf) (A : ∀ f sp, S f sp → ∃ fd ps, FnOk X.prog X.w X.K X.mg X.base (L2.CX X.prog X.w) k f fd ps sp ∧ PySem.W.keepIn X.K (.ref f) = true ∧ Binds X.K fd ps []) (hr : Room k X.A) (hx : ∀ σ, PassesAt (L2.CX X.prog X.w) X σ (E σ)) (ha : PA X (e :: es) t)
    (ht : eval (.Call fe (e :: es) [] pos) X.env = (do callWith pos (← eval fe X.env) [] (backTo pos (starEach (e :: es) X.env)) (backToKw pos (keywordEach [] X.env))))
    (he : starEach (e :: es) X.env = (false, eval e X.env) :: starEach es X.env) (hpl : (backTo pos (starEach es X.env)).any (·.1) = false) : PE X (.Call fe (e :: es) [] pos) (tPickF S E tf t) := by
  refine ⟨fun pins s σ H Q I h => ?_⟩
  refine Call_ (thn (hf.run pins s σ H _ I h) fun u s1 ⟨y, H1, I1, ry, f, sp, ey, hS, q⟩ => ?_) ht
  subst ey
  obtain rfl : u = Value.ref f := ry
  obtain ⟨fd, ps, F, hk, hb⟩ := A f sp hS
  refine PySem.W.callWith_K (h₀ := X.base) I.ok.mod.kin hk (thn (ha.run pos pins s1 σ H1 _ I1 q) fun us s2 ⟨vs, H2, I2, r, q2⟩ => ⟨I2.kIn, ?_⟩) he hpl
  exact run_fnSD F hr hb .nil (hx σ) I2 r (by rw [List.append_nil]; exact q2)
def fnsB (g : Str → Bool) : List FE → List Expr → Bool
  | [], [] => true
  | fe :: fes, .Name x _ :: es => decide (x = fe.name) && g x && fnsB g fes es
  | _, _ => false
/-- the defs' names, one after the other: their addresses -/
theorem pa_fns {k : Nat} {g : Str → Bool} (hg : ∀ x, g x = true → Gl X x ∧ (x == ("__debug__" : Str)) = false) : ∀ {fes : List FE} {es : List Expr}, fnsB g fes es = true → (∀ fe ∈ fes, Good X k fe) →
    ∃ fs : List Addr, fs.length = fes.length ∧ (∀ (i : Nat) (fe : FE), fes[i]? = some fe → ∃ f fd, fs[i]? = some f ∧ FnOk X.prog X.w X.K X.mg X.base (L2.CX X.prog X.w) k f fd fe.ps (spP X.K fe.ps.length fe.m) ∧ PySem.W.keepIn X.K (.ref f) = true ∧ Binds X.K fd fe.ps []) ∧
      ∃ t, PA X es t ∧ ∀ σ H (Q : List V → Hp → Prop), Q (fs.map V.ref) H → t σ H Q
  | [], [], _, _ => ⟨[], rfl, fun i fe e => by simp at e, _, pa_nil, fun σ H Q q => q⟩
  | [], _ :: _, h, _ => by simp [fnsB] at h
  | _ :: _, [], h, _ => by simp [fnsB] at h
  | fe :: fes, e :: es, h, G => by
    cases e <;> simp [fnsB] at h
    rename_i x p
    obtain ⟨⟨rfl, hx⟩, h2⟩ := h
    obtain ⟨g1, g2⟩ := hg _ hx
    obtain ⟨f, fd, m1, m2, m3, m4⟩ := G fe List.mem_cons_self
    obtain ⟨fs, l1, l2, t, pt, jt⟩ := pa_fns hg h2 fun z hz => G z (List.mem_cons_of_mem _ hz)
    refine ⟨f :: fs, by simp [l1], fun i ge e => ?_, _, pa_cons (pe_glob (v := .ref f) g1 m1 rfl g2) pt rfl, fun σ H Q q => ?_⟩
    · cases i with
      | zero => simp at e; subst e; exact ⟨f, fd, rfl, m4, m2, m3⟩
      | succ i => simpa using l2 i ge (by simpa using e)
    · exact jt σ H _ q
theorem de_callx {k : Nat} {fes : List FE} {w : P} {ps : Ps} {y e : Expr} {fs es : List Expr} {g : Str → Bool} {lp p pos : Pos} (hg : ∀ x, g x = true → Gl X x ∧ (x == ("__debug__" : Str)) = false) (hf : fnsB g fes fs = true) (hl : fes.length ≤ 1000) (G : ∀ fe ∈ fes, Good X k fe) (hr : Room k X.A) (tk : Takes X W) (hy : ixOk y = true) (hn : (e :: es).all ns = true) (hw : DE X ex W w y) (ha : DA X ex W ps (e :: es)) :
    DE X ex W (.callx fes w ps) (.Call (.Subscript (.List fs lp) y p) (e :: es) [] pos) := by
  obtain ⟨as, l1, l2, tn, pn, jn⟩ := pa_fns hg hf G
  obtain ⟨tw, pw, jw⟩ := hw
  obtain ⟨t, pt, jt⟩ := ha
  simp only [List.all_cons, Bool.and_eq_true] at hn
  refine ⟨_, pe_pickF (k := k) (S := fun f sp => ∃ (i : Nat) (fe : FE), fes[i]? = some fe ∧ as[i]? = some f ∧ sp = spP X.K fe.ps.length fe.m) (E := fun s cls d H => W cls d s H) (pe_ix ix_seq (pe_lst pn) pw (plain_ix hy)) (fun f sp ⟨i, fe, e1, e2, e3⟩ => ?_) hr (fun s => passAt tk s) pt rfl (star_cons hn.1) (star_any hn.2), fun HF H0 H al S r s Q R L h => ?_⟩
  · obtain ⟨f', fd, q1, q2, q3, q4⟩ := l2 i fe e1
    rw [e2] at q1; cases q1; subst e3
    exact ⟨fd, fe.ps, q2, q3, q4⟩
  · simp only [evalE] at h
    refine jn s H _ ⟨by rw [List.length_map, l1]; exact Nat.le_trans hl (by decide), fun q hq => ?_⟩
    obtain ⟨R', e'⟩ := R.lay (o := .lst (as.map V.ref)) hq
    refine jw _ _ _ _ _ _ _ _ R' (L.ext e') ((h.shift e').bind fun u S1 v H1 H01 al1 e1 R1 u1 h1 => ?_)
    cases q2 : pickF fes u with
    | none => rw [q2] at h1; exact h1.elim
    | some fe =>
      rw [q2] at h1
      simp only [lift_some, Res.ok_bind] at h1
      cases u with
      | d x =>
        cases x with
        | int i =>
          cases u1
          have hi : atI fes i = some fe := q2
          unfold atI at hi
          cases q3 : ixN fes.length i with
          | none => rw [q3] at hi; cases hi
          | some j =>
            rw [q3] at hi
            have hj : fes[j]? = some fe := hi
            obtain ⟨f, fd, m1, _⟩ := l2 j fe hj
            have hq' : SqL X.K H1 q (as.map V.ref) := SqL.of (R1.fz _ _ (e1.sub _ _ upd_same))
            refine .inl ⟨q, as.map V.ref, i, .ref f, rfl, rfl, hq', ?_, f, _, rfl, ⟨j, fe, hj, m1, rfl⟩, ?_⟩
            · unfold atI
              rw [List.length_map, l1, q3]
              show (as.map V.ref)[j]? = some (.ref f)
              rw [List.getElem?_map, m1]; rfl
            · exact jt _ _ _ _ _ _ _ _ R1 ((L.ext e').ext e1) (h1.bind fun us S2 vs H2 H02 al2 e2 R2 u2 h2 => callU_ok R2 u2 h2)
        | _ => cases q2
      | _ => cases q2

/-! ### what a caught error is -/
def ExI (X : Cx) (ex : ExK) : Prop := ∀ a c, ex a c → CallR X (.builtin "isinstance") (rIsE X.K (He.ga X.K c) a)
theorem de_isx {i : Nat} {cs : List Str} {C x : Str} {p p1 p2 pos : Pos} (hx : ExI X ex) (hi : BltN X "isinstance") (hN : X.N[i]? = some x) (hv : Vis X.env.scope x) (hd : (x == ("__debug__" : Str)) = false) (hcd : (x == ("__classdict__" : Str)) = false)
    (hgC : Gl X C) (hdC : (C == ("__debug__" : Str)) = false) (mC : X.mg C = some (.ref (He.ga X.K C))) (hk : ∀ c ∈ cs, PySem.W.kitOne X.K (.ref (He.ga X.K c)) (.ref (He.ga X.K C)) = some (decide (c = C))) :
    DE X ex W (.isx i cs C) (.Call (.Name "isinstance" p) [.Name x p1, .Name C p2] [] pos) := by
  have cr : CallR X (.builtin "isinstance") (fun xs H Q => ∃ a c, ex a c ∧ rIsE X.K (He.ga X.K c) a xs H Q) := by
    intro pins s σ H xs us Q I r h
    obtain ⟨a, c, e, h⟩ := h
    exact hx a c e pins s σ H xs us Q I r h
  refine ⟨_, pe_callB cr hi.1 hi.2 boot_isinstance (pa_cons (pe_var hN hv hd hcd) (pa_cons (pe_glob (v := .ref (He.ga X.K C)) hgC mC rfl hdC) pa_nil)) (by decide) (by decide), fun HF H0 H al S r s Q R L h => ?_⟩
  simp only [evalE] at h
  unfold isxU at h
  split at h
  · rename_i c q
    split at h
    · rename_i hc
      obtain ⟨v, h1, a, rfl, h2⟩ := L.at_ i _ q
      refine ⟨_, h1, a, c, h2, .ref (He.ga X.K C), .ref (He.ga X.K C), decide (c = C), rfl, fun u hu => hu, hk c hc, h.now R rfl⟩
    · exact h.elim
  · exact h.elim
end
/-! ### known errors, none known -/
mutual
theorem UP.exTo {K : PySem.W.Frag} {ex ex' : ExK} {H : Hp} {al : List Addr} (hn : ∀ a c, ¬ ex a c) : ∀ (u : U) (v : V), UP K ex H al u v → UP K ex' H al u v
  | .d _, _, h => h
  | .loc _, _, h => h
  | .tl us, _, ⟨a, xs, h1, h2, h3⟩ => ⟨a, xs, h1, h2, UPs.exTo hn us xs h3⟩
  | .ll us, _, ⟨a, xs, h1, h2, h3⟩ => ⟨a, xs, h1, h2, UPs.exTo hn us xs h3⟩
  | .scr _, _, h => h
  | .fn _, _, h => h
  | .exn _, _, ⟨a, _, h⟩ => (hn _ _ h).elim
  | .clo _ _, _, h => h
theorem UPs.exTo {K : PySem.W.Frag} {ex ex' : ExK} {H : Hp} {al : List Addr} (hn : ∀ a c, ¬ ex a c) : ∀ (us : List U) (vs : List V), UPs K ex H al us vs → UPs K ex' H al us vs
  | [], _, h => h
  | u :: us, _, ⟨v, r, h1, h2, h3⟩ => ⟨v, r, h1, UP.exTo hn u v h2, UPs.exTo hn us r h3⟩
end
mutual
theorem UP.exBack {K : PySem.W.Frag} {ex ex' : ExK} {H : Hp} {al : List Addr} : ∀ (u : U) (v : V), u.noExn = true → UP K ex' H al u v → UP K ex H al u v
  | .d _, _, _, h => h
  | .loc _, _, _, h => h
  | .tl us, _, hn, ⟨a, xs, h1, h2, h3⟩ => ⟨a, xs, h1, h2, UPs.exBack us xs hn h3⟩
  | .ll us, _, hn, ⟨a, xs, h1, h2, h3⟩ => ⟨a, xs, h1, h2, UPs.exBack us xs hn h3⟩
  | .scr _, _, _, h => h
  | .fn _, _, _, h => h
  | .exn _, _, hn, _ => by simp [U.noExn] at hn
  | .clo _ _, _, _, h => h
theorem UPs.exBack {K : PySem.W.Frag} {ex ex' : ExK} {H : Hp} {al : List Addr} : ∀ (us : List U) (vs : List V), U.noExns us = true → UPs K ex' H al us vs → UPs K ex H al us vs
  | [], _, _, h => h
  | u :: us, _, hn, ⟨v, r, h1, h2, h3⟩ => by
    simp only [U.noExns, Bool.and_eq_true] at hn
    exact ⟨v, r, h1, UP.exBack u v hn.1 h2, UPs.exBack us r hn.2 h3⟩
end
section
variable {K : PySem.W.Frag} {ex ex' : ExK} {HF H0 H : Hp} {al : List Addr} {S : Store} {s : L2.St} {r : Rho}
theorem Rl.exTo (hn : ∀ a c, ¬ ex a c) (R : Rl K ex HF H0 H al S) : Rl K ex' HF H0 H al S :=
  ⟨R.fr, R.fz, R.len, R.nd, fun n a c h1 h2 => by
    have q := R.at_ n a c h1 h2
    cases c with
    | ins cn fs =>
      obtain ⟨q1, q2, dx, ws, q3, q4, q5, q6⟩ := q
      exact ⟨q1, q2, dx, ws, q3, q4, UPs.exTo hn _ _ q5, q6⟩
    | _ => exact q, R.old⟩
theorem Rl.exBack (hn : S.all Cell.noExn = true) (R : Rl K ex' HF H0 H al S) : Rl K ex HF H0 H al S :=
  ⟨R.fr, R.fz, R.len, R.nd, fun n a c h1 h2 => by
    have q := R.at_ n a c h1 h2
    cases c with
    | ins cn fs =>
      obtain ⟨q1, q2, dx, ws, q3, q4, q5, q6⟩ := q
      exact ⟨q1, q2, dx, ws, q3, q4, UPs.exBack _ _ (List.all_eq_true.mp hn _ (List.mem_of_getElem? h2)) q5, q6⟩
    | _ => exact q, R.old⟩
theorem Sl.exTo (hn : ∀ a c, ¬ ex a c) (L : Sl K ex H0 al s r) : Sl K ex' H0 al s r :=
  ⟨L.len, fun i u q => by
    obtain ⟨v, h1, h2⟩ := L.at_ i u q
    exact ⟨v, h1, UP.exTo hn _ _ h2⟩⟩
end
/-! ### try -/
section
variable {X : Cx} {ex : ExK} {W : WX}
theorem ds_try {cs : List Str} {C n : Str} {i : Nat} {body hand : Ss} {bd suite : List Stmt} {b₀ : Stmt} {np pos' pos : Pos} (hs : X.stack = X.env :: X.outer) (hf : X.env.frame = some X.env.locals) (hN : X.N.Nodup) (hi : X.N[i]? = some n) (hln : X.env.kindOf n = some .local)
    (hC : Names X C (.ref (He.ga X.K C))) (tk : Takes X W) (hne : ∀ a c, ¬ ex a c) (hex : ∀ c ∈ cs, PySem.W.exmOne X.K (.ref (He.ga X.K c)) (.ref (He.ga X.K C)) = some true)
    (hb : ∀ (W' : WX) (pn : List (Addr × Obj)) (xe : Value → Shared → Prop), Takes (X.tr pn xe) W' → PassesOwn (model X.prog X.w) X.A X.env xe → DSs (X.tr pn xe) ex W' body bd)
    (hsu : ∀ (a : Addr) (oe : Obj) (c : Str) (pn : List (Addr × Obj)), c ∈ cs → Zc (.ref (He.ga X.K c)) none oe → (∃ vs, oe.data = .fields vs) → DSs (X.suite a ((a, oe) :: pn)) (fun a' c' => a' = a ∧ c' = c) (fun _ _ _ _ => False) hand (b₀ :: suite)) :
    DS X ex W (.tryx cs C i body hand) (.Try bd [.ExceptHandler (some (.Name C np)) (some n) (b₀ :: suite) pos'] [] [] pos) := by
  have tbS : ∀ W' : WX, ∃ t : TS, (∀ (pn : List (Addr × Obj)) (xe : Value → Shared → Prop), Takes (X.tr pn xe) W' → PassesOwn (model X.prog X.w) X.A X.env xe → PSs (X.tr pn xe) bd t) ∧ JS X.K ex W' t (evalSs body) := by
    intro W'
    refine ⟨fun D s H => ∀ (pn : List (Addr × Obj)) (xe : Value → Shared → Prop) (h1 : Takes (X.tr pn xe) W') (h2 : PassesOwn (model X.prog X.w) X.A X.env xe), (hb W' pn xe h1 h2).choose D s H, fun pn xe h1 h2 => ⟨fun pins s σ H D I h => ?_⟩, fun HF H0 H al S r s D R L h pn xe h1 h2 => ?_⟩
    · exact (hb W' pn xe h1 h2).choose_spec.1.run pins s σ H D I (h pn xe h1 h2)
    · exact (hb W' pn xe h1 h2).choose_spec.2 HF H0 H al S r s D R L h
  obtain ⟨tb, htb⟩ := Classical.axiomOfChoice tbS
  refine ⟨_, ps_try_as (ts := fun a cls d D s H => ∃ c, ∃ hc : c ∈ cs, cls = .ref (He.ga X.K c) ∧ d = none ∧ ∀ (oe : Obj) (pn : List (Addr × Obj)) (hz : Zc (.ref (He.ga X.K c)) none oe) (hv : ∃ vs, oe.data = .fields vs), (hsu a oe c pn hc hz hv).choose D s H) hs hf hN hi hln hC tk (fun W' => (htb W').1) ?_, ?_⟩
  · rintro a oe cls d pn hz hv
    refine ⟨fun pins s σ H D I h => ?_⟩
    obtain ⟨c, hc, rfl, rfl, h⟩ := h
    exact (hsu a oe c pn hc hz hv).choose_spec.1.run pins s σ H D I (h oe pn hz hv)
  · intro HF H0 H al S r s D R L h
    simp only [evalS] at h
    refine (htb _).2 HF H0 H al S r s D R L ?_
    cases q : evalSs body r S with
    | next r1 S1 => rw [q] at h; exact h
    | ret u S1 => rw [q] at h; exact h
    | brk r1 S1 => rw [q] at h; exact h
    | cont r1 S1 => rw [q] at h; exact h
    | bad => rw [q] at h; exact h
    | exc c r1 S1 =>
      rw [q] at h
      dsimp only at h
      intro s' H' H0' al' e' R' L'
      by_cases hc : c ∈ cs
      · rw [if_pos hc] at h
        refine ⟨true, hex c hc, fun _ a na => ⟨c, hc, rfl, rfl, fun oe pn hz hv => ?_⟩, fun z => nomatch z⟩
        have h' := PostS.shift e' h
        refine (hsu a oe c pn hc hz hv).choose_spec.2 HF H0' H' al' S1 (r1.set i (some (.exn c))) _ _ (R'.exTo hne) ((L'.exTo hne).set (u := .exn c) ⟨a, rfl, rfl, rfl⟩) ?_
        cases q2 : evalSs hand (r1.set i (some (.exn c))) S1 with
        | ret u S2 =>
          rw [q2] at h'
          simp only [handOut] at h'
          split at h'
          · rename_i hx
            rw [Bool.and_eq_true] at hx
            exact fun v H2 H02 al2 e2 R2 u2 => h' v H2 H02 al2 e2 (R2.exBack hx.2) (UP.exBack u v hx.1 u2)
          · exact h'.elim
        | next r2 S2 => rw [q2] at h'; exact h'.elim
        | brk r2 S2 => rw [q2] at h'; exact h'.elim
        | cont r2 S2 => rw [q2] at h'; exact h'.elim
        | exc c2 r2 S2 => rw [q2] at h'; exact h'.elim
        | bad => rw [q2] at h'; exact h'.elim
      · rw [if_neg hc] at h; exact h.elim
end
end PD
/-! Part V: min of alike data; sorted(t) of ints; enumerate; list(x) as a cell; {} and .get(k, d). -/
namespace PD
open PySem PySem.Spec PyProof.Rows L2
section
variable {X : Cx} {ex : ExK} {W : WX}

/-! ### min -/
def rMinD (K : PySem.W.Frag) : List V → Hp → VK → Prop := fun vs H Q => ∃ (a : Addr) (ws : List V) (x : PyData) (xs : List PyData), vs = [V.ref a] ∧ SqL K H a ws ∧ DpAll K H ws (x :: xs) ∧ PySem.W.AlikeAll (x :: xs) ∧ PyData.depthAll (x :: xs) ≤ 60 ∧
  ∀ (i : Nat) (v : V) (d : PyData), ws[i]? = some v → (x :: xs)[i]? = some d → d = PySem.W.minD x xs → Q v H
theorem cr_minD (hc : X.calm = true) (hu : X.A.units + 65 < cLine) : CallR X (.builtin "min") (rMinD X.K) := by
  intro pins s σ H vs us Q I r h
  obtain ⟨a, ws, x, xs, rfl, hs, hd, ha, hdep, q⟩ := h
  obtain ⟨its, rv, hl, _⟩ := I.list hs
  rw [Vals.ref1 r]
  obtain ⟨as, hr⟩ := Dp.readsAll I (x :: xs) ws its hd rv
  refine PySem.W.min_list_data (I.ok.hd hc) hl.isList (by simpa using hr) ha (by omega) fun i v h' tk bs hv hrd hk => ?_
  have hv' : its[i]? = some v := by simpa using hv
  have hi : i < its.length := (List.getElem?_eq_some_iff.mp hv').1
  have hl1 := rv.length
  have hi' : i < ws.length := by omega
  obtain ⟨u, hu1, hu2⟩ := rv.get (List.getElem?_eq_getElem hi')
  rw [hv'] at hu1
  cases hu1
  obtain ⟨bs2, r2, hlt, hmem, _⟩ := PySem.W.readsAll_at (vs := its) hr i v hv'
  have hget : (x :: xs)[i]? = some ((x :: xs).getD i .none) := by
    rw [List.getElem?_eq_getElem hlt, List.getD_eq_getElem?_getD, List.getElem?_eq_getElem hlt]; rfl
  have hmin : PySem.W.minD x xs ∈ x :: xs := by
    unfold PySem.W.minD
    have : ∀ (l : List PyData) (b : PyData), l.foldl (fun a y => if PySem.W.dataLt y a then y else a) b = b ∨ l.foldl (fun a y => if PySem.W.dataLt y a then y else a) b ∈ l := by
      intro l
      induction l with
      | nil => intro b; exact .inl rfl
      | cons y l ih =>
        intro b
        rw [List.foldl_cons]
        rcases ih (if PySem.W.dataLt y b then y else b) with e | e
        · rw [e]
          split
          · exact .inr List.mem_cons_self
          · exact .inl rfl
        · exact .inr (List.mem_cons_of_mem _ e)
    rcases this xs x with e | e
    · rw [e]; exact List.mem_cons_self
    · exact List.mem_cons_of_mem _ e
  have e2 : (x :: xs).getD i .none = PySem.W.minD x xs := PySem.W.alike_unique _ _ v _ _ (ha.1 _ hmem _ hmin) (PySem.W.reads_keeps hk r2) hrd
  exact ⟨ws[i], H, I.kept hk, hu2, q i _ _ (List.getElem?_eq_getElem hi') hget e2⟩
theorem alikeB_ok {l : List PyData} (h : alikeB l = true) : PySem.W.AlikeAll l := by
  refine ⟨fun x hx y hy => ?_, fun x hx z => ?_⟩
  · have := List.all_eq_true.mp h x hx
    rw [Bool.and_eq_true] at this
    exact List.all_eq_true.mp this.2 y hy
  · have := List.all_eq_true.mp h x hx
    rw [Bool.and_eq_true] at this
    subst z
    simp at this
theorem minL_ok (hc : X.calm = true) (hu : X.A.units + 65 < cLine) : Blt.ok X ex (.builtin "min") .minL := by
  refine ⟨_, cr_minD hc hu, fun W HF H0 H al S s Q xs z vs R hx e h => ?_⟩
  match xs, e with
  | [.list (d :: ds)], e =>
    simp only [Blt.sem] at e
    split at e
    · rename_i hz
      cases e
      obtain ⟨v, rfl, a, ws, rfl, h2, h3⟩ := hx.one
      refine ⟨a, ws, d, ds, rfl, h2, DPs.dps _ _ (DPs.mono R.fz _ _ h3), alikeB_ok hz.1, hz.2, fun i v d' h4 h5 h6 => ?_⟩
      obtain ⟨v', g1, g2⟩ := h3.get h5
      rw [h4] at g1
      cases g1
      subst h6
      exact h.now R g2
    · cases e
/-! ### sorted(t), t a tuple of ints -/
theorem sortTI {pg : Program} {w : World} {A : Around} {E : Value → Shared → Prop} {s : Shared} {t : Addr} {vs : List Value} {ms : List Int} {Q : Value → Shared → Prop} (ht : IsTup s.heap t vs.toArray) (hS : IntsAre vs ms) (h64 : vs.length < 64)
    (h : ∀ (out : Array Value) (zs : List Int), IntsAre out.toList zs → zs.Perm ms → zs.Pairwise (· ≤ ·) → Q (.ref (s.heap.objs.size + 1)) { s with heap := sortedAll s.heap vs out }) :
    wpAny (model pg w) A (call (.builtin "sorted") [.ref t]) Q E s := by
  have hz : vs.length ≤ sizeLine := by rw [sizeLine_eq]; omega
  refine Calls.call_function_entry kind_sorted plain_sorted entry_sorted (args_sorted1 _) ?_
  unfold Builtin.«sorted»
  refine wpAny_bind (wpAny_pure (wpAny_bind (collT ht hz (wpAny_bind (wpAny_newList ?_ hz)))))
  have e1 : (colH s.heap vs).objs.size = s.heap.objs.size + 1 := by rw [colH, Heap.size_update, size_push']
  have e2 : ((colH s.heap vs).push (seqObj "list" vs.toArray 0)).get? (s.heap.objs.size + 1) = some (seqObj "list" vs.toArray 0) := by
    rw [← e1]; exact Heap.get?_push_size _ rfl
  show wpAny _ _ _ _ _ { s with heap := (colH s.heap vs).push (seqObj "list" vs.toArray 0) }
  rw [e1]
  refine wpAny_bind (wpAny_holding (wpAny_call_entry slot_list_sort ⟨_, e2, rfl⟩ entry_list_sort (list_sort_treeAny e2 hS hz fun out zs h1 h2 h3 => ⟨_, rfl, wpAny_pure ⟨_, rfl, ?_⟩⟩) (args_list_sort _)))
  exact h out zs h1 h2 h3
theorem isort_uniq : ∀ {xs ys : List Int}, xs.Perm ys → xs.Pairwise (· ≤ ·) → ys.Pairwise (· ≤ ·) → xs = ys
  | [], ys, h, _, _ => (List.nil_perm.mp h).symm
  | x :: xs, [], h, _, _ => absurd h.length_eq (by simp)
  | x :: xs, y :: ys, h, h1, h2 => by
    have hx : x ∈ y :: ys := h.mem_iff.mp (by simp)
    have hy : y ∈ x :: xs := h.mem_iff.mpr (by simp)
    have e : x = y := by
      rcases List.mem_cons.mp hx with e | hx
      · exact e
      · rcases List.mem_cons.mp hy with e | hy
        · exact e.symm
        · have := (List.pairwise_cons.mp h1).1 y hy
          have := (List.pairwise_cons.mp h2).1 x hx
          omega
    subst e
    rw [isort_uniq (List.Perm.cons_inv h) (List.pairwise_cons.mp h1).2 (List.pairwise_cons.mp h2).2]
theorem insI_perm (x : Int) : ∀ l : List Int, (insI x l).Perm (x :: l)
  | [] => List.Perm.refl _
  | y :: r => by
    unfold insI
    split
    · exact ((insI_perm x r).cons y).trans (List.Perm.swap _ _ _)
    · exact List.Perm.refl _
theorem sortInt_perm : ∀ l : List Int, (sortInt l).Perm l
  | [] => List.Perm.refl _
  | x :: r => (insI_perm x _).trans ((sortInt_perm r).cons x)
theorem insI_pw (x : Int) : ∀ l : List Int, l.Pairwise (· ≤ ·) → (insI x l).Pairwise (· ≤ ·)
  | [], _ => by simp [insI]
  | y :: r, h => by
    unfold insI
    obtain ⟨h1, h2⟩ := List.pairwise_cons.mp h
    split
    · rename_i c
      refine List.Pairwise.cons (fun z hz => ?_) (insI_pw x r h2)
      rcases List.mem_cons.mp ((insI_perm x r).mem_iff.mp hz) with rfl | hz
      · omega
      · exact h1 z hz
    · rename_i c
      refine List.Pairwise.cons (fun z hz => ?_) h
      rcases List.mem_cons.mp hz with rfl | hz
      · omega
      · have := h1 z hz; omega
theorem sortInt_pw : ∀ l : List Int, (sortInt l).Pairwise (· ≤ ·)
  | [] => by simp [sortInt]
  | x :: r => insI_pw x _ (sortInt_pw r)
def rSortTI (K : PySem.W.Frag) : List V → Hp → VK → Prop := fun vs H Q => ∃ (a : Addr) (xs : List Int), vs = [V.ref a] ∧ SqT K H a (xs.map V.int) ∧ xs.length < 64 ∧ ∀ p, H p = none → Q (.ref p) (upd H p (.lst ((sortInt xs).map V.int)))
theorem vals_of_ints' : ∀ {vs : List Value} {ms : List Int}, IntsAre vs ms → Vals (ms.map V.int) vs
  | _, _, .nil => .nil
  | _, _, .cons n t h => .cons ⟨t, rfl⟩ (vals_of_ints' h)
theorem cr_sortTI : CallR X (.builtin "sorted") (rSortTI X.K) := by
  intro pins s r H vs us Q I rv h
  obtain ⟨a, xs, rfl, hq, h64, q⟩ := h
  obtain ⟨its, ri, pl, hz⟩ := I.tuple hq
  rw [Vals.ref1 rv]
  have hl := ri.length
  rw [List.length_map] at hl
  refine sortTI pl ri.ints (by rw [← hl]; exact h64) fun out zs h1 h2 h3 => ?_
  have hzs : zs = sortInt xs := isort_uniq (h2.trans (sortInt_perm xs).symm) h3 (sortInt_pw xs)
  subst hzs
  obtain ⟨ep, he⟩ := sortedAll_at s.heap its out
  have hlen : ((sortInt xs).map V.int).length ≤ sizeLine := by rw [List.length_map, h2.length_eq]; exact small64 h64
  exact ⟨.ref _, upd H (s.heap.objs.size + 1) (.lst ((sortInt xs).map V.int)), I.laid (t' := s.toks) (fun _ _ => sortedAll_old) (Nat.le_succ _) ⟨hlen, out.toList, ep, vals_of_ints' h1, he⟩, rfl, q _ (I.hok.fresh (Nat.le_succ _))⟩
theorem sortI_ok : Blt.ok X ex (.builtin "sorted") .sortI := by
  refine ⟨_, cr_sortTI, fun W HF H0 H al S s Q xs z vs R hx e h => ?_⟩
  match xs, e with
  | [.tuple ds], e =>
    obtain ⟨ss, q, e⟩ := Option.bind_eq_some_iff.mp e
    split at e
    · rename_i h64
      cases e
      obtain ⟨v, rfl, a, ws, rfl, h2, h3⟩ := hx.one
      obtain ⟨rfl, rfl⟩ := h3.of_ints q
      exact ⟨a, ss, rfl, sqT_same R.fz h2.sq, h64, fun p hp => h.newL R hp (DPs.ints _)⟩
    · cases e
/-! ### list(x), to be changed later -/
theorem de_newlc {a : P} {x : Expr} {p pos : Pos} (hx : BltN X "list") (hn : ns x = true) (ha : DE X ex W a x) : DE X ex W (.newlc a) (.Call (.Name "list" p) [x] [] pos) := by
  obtain ⟨t, pt, jt⟩ := ha
  refine ⟨_, pe_callTy call_list_of hx.1 hx.2 (by decide +kernel) (pa_cons pt pa_nil (star_cons hn)) (by decide) (by decide) (star_cons hn), fun HF H0 H al S r s Q R L h => ?_⟩
  simp only [evalE] at h
  refine jt _ _ _ _ _ _ _ _ R L (h.bind fun u S1 v H1 H01 al1 e1 R1 u1 h1 => ?_)
  unfold newlcU at h1
  split at h1
  · rename_i xs q
    obtain ⟨a, ws, rfl, h2, h3⟩ := rd_of R1 u1 q
    refine ⟨a, ws, rfl, .inl h2, fun l hl => ?_⟩
    obtain ⟨R2, e2⟩ := R1.push hl h3
    refine h1 _ _ _ _ e2 R2 ⟨l, ?_, rfl⟩
    rw [← R1.len]
    simp
  · rename_i xs q
    obtain ⟨a, ws, rfl, h2, h3⟩ := rd_of R1 u1 q
    refine ⟨a, ws, rfl, .inr (sqT_same R1.fz h2.sq), fun l hl => ?_⟩
    obtain ⟨R2, e2⟩ := R1.push hl h3
    refine h1 _ _ _ _ e2 R2 ⟨l, ?_, rfl⟩
    rw [← R1.len]
    simp
  · exact h1.elim
/-! ### {} and .get(k, d) -/
theorem de_newd0 {pos : Pos} : DE X ex W .newd0 (.Dict [] [] pos) := by
  refine ⟨_, pe_dnewK, fun HF H0 H al S r s Q R L h => ?_⟩
  simp only [evalE] at h
  intro p hp
  obtain ⟨R1, e1⟩ := R.pushC (c0 := .dct []) (o := .dK []) hp fun a b => ⟨a, b, [], upd_same, rfl, rfl⟩
  refine h _ _ _ _ e1 R1 ⟨p, ?_, rfl⟩
  rw [← R.len]
  simp
theorem TabP.getN {K : PySem.W.Frag} {H : Hp} {k : Key} : ∀ {t : TabD} {ws : List (Key × V)}, TabP K H t ws → getK t k = none → valV ws k = none
  | [], _, h, _ => by cases h; rfl
  | (k', d) :: t, _, ⟨v, r, h1, h2, h3⟩, e => by
    subst h1
    by_cases hk : k' = k
    · subst hk
      simp [getK] at e
    · have e' : getK t k = none := by simpa [getK, List.find?_cons, hk] using e
      rw [valV_neg (p := (k', v)) hk]
      exact TabP.getN h3 e'
theorem de_dget2 {a k d : P} {x e f : Expr} {apos cpos : Pos} (hun : X.A.units + 1 < cLine) (hb : baseOk x = true) (hl : (apos.endLine == cpos.line) = true) (hne : ns e = true) (hnf : ns f = true) (ha : DE X ex W a x) (hk : DE X ex W k e) (hd : DE X ex W d f) :
    DE X ex W (.dget2 a k d) (.Call (.Attribute x "get" apos) [e, f] [] cpos) := by
  obtain ⟨ta, pa, ja⟩ := ha
  obtain ⟨tk, pk, jk⟩ := hk
  obtain ⟨td, pd, jd⟩ := hd
  have hall : [e, f].all ns = true := by simp [hne, hnf]
  refine ⟨_, pe_dget2 hun pa pk pd ⟨base_ok hb, by rw [star_all hall]; rfl, hl, by rw [star_cons hne, star_cons hnf]; rfl⟩, fun HF H0 H al S r s Q R L h => ?_⟩
  simp only [evalE] at h
  refine ja _ _ _ _ _ _ _ _ R L (h.bind fun u S1 v H1 H01 al1 e1 R1 u1 h1 => ?_)
  split at h1
  · rename_i hq
    obtain ⟨⟨n0, t0⟩, q0⟩ := Option.isSome_iff_exists.mp hq
    obtain ⟨a0, ws0, rfl, rfl, k1, k2, k3, k4, k5, k6⟩ := tab_of R1 u1 q0
    refine ⟨a0, rfl, ?_, ?_⟩
    · first
        | exact ⟨_, .inl (.inl k5)⟩
        | exact .inl ⟨_, .inl k5⟩
        | exact .inl ⟨_, k5⟩
    · refine jk _ _ _ _ _ _ _ _ R1 (L.ext e1) (h1.bind fun w S2 v2 H2 H02 al2 e2 R2 w2 h2 => ?_)
      refine jd _ _ _ _ _ _ _ _ R2 ((L.ext e1).ext e2) (h2.bind fun z S3 v3 H3 H03 al3 e3 R3 z3 h3 => ?_)
      unfold dget2U at h3
      split at h3
      · rename_i n t y' q1
        obtain ⟨a, ws, hn, hv, m1, m2, m3, m4, m5, m6⟩ := tab_of R3 (UP.mono (e2.trans e3).sub (e2.trans e3).pre _ _ u1) q1
        cases hv
        have w3 := UP.mono e3.sub e3.pre _ _ w2
        cases q : keyD y' with
        | none => rw [q] at h3; exact h3.elim
        | some kk =>
          rw [q] at h3
          dsimp only at h3
          cases q2 : getK t kk with
          | none =>
            rw [q2] at h3
            exact ⟨none, .inl ⟨ws, kk, .inl m5, key_of w3 q, (m6.getN q2).symm⟩, h3.now R3 z3⟩
          | some x =>
            rw [q2] at h3
            obtain ⟨v, g1, g2⟩ := m6.get q2
            exact ⟨some v, .inl ⟨ws, kk, .inl m5, key_of w3 q, g1.symm⟩, h3.now R3 g2⟩
      · exact h3.elim
  · exact h1.elim
/-! ### enumerate -/
theorem enumFrom_len : ∀ (xs : List PyData) (k : Nat), (enumFrom k xs).length = xs.length
  | [], _ => rfl
  | _ :: r, k => by simp [enumFrom, enumFrom_len r]
theorem enumFrom_get : ∀ {xs : List PyData} {k i : Nat} {u : U}, (enumFrom k xs)[i]? = some u → ∃ d, xs[i]? = some d ∧ u = .d (.tuple [.int ((k + i : Nat) : Int), d])
  | [], _, _, _, h => by simp [enumFrom] at h
  | x :: r, k, 0, u, h => by
    simp [enumFrom] at h
    exact ⟨x, rfl, h.symm⟩
  | x :: r, k, i + 1, u, h => by
    obtain ⟨d, h1, h2⟩ := enumFrom_get (xs := r) (k := k + 1) (i := i) (u := u) (by simpa [enumFrom] using h)
    refine ⟨d, by simpa using h1, ?_⟩
    rw [h2, show k + 1 + i = k + (i + 1) by omega]
theorem yl_enum {K : PySem.W.Frag} {H0 : Hp} {al : List Addr} {a : Addr} {ds : List PyData} {vs : List V} (h2 : H0 a = some (.lst vs)) (h3 : DPs K H0 ds vs) : Yl K ex H0 al (Ite K a) (enumFrom 0 ds) none := by
  intro i HF H0' H' al' S' s0 pre R _
  have hq : SqL K H' a vs := SqL.of (R.fz _ _ (s0 _ _ h2))
  have hd := DPs.mono s0 _ _ h3
  have hl := h3.length
  rw [enumFrom_len]
  refine ⟨fun hi => ?_, fun hi => ⟨vs, hq, by omega⟩, fun u x H'' e y => ?_⟩
  · have hi' : i < vs.length := by omega
    exact ⟨vs, vs[i], hq, List.getElem?_eq_getElem hi'⟩
  · obtain ⟨T, x0, rfl, hT, rfl, y⟩ := y
    obtain ⟨d, g1, rfl⟩ := enumFrom_get e
    obtain ⟨v, g2, g3⟩ := hd.get g1
    rw [y vs hq] at g2
    cases g2
    obtain ⟨R2, e2⟩ := R.lay (o := .tup [.int (i : Nat), x0]) hT
    refine ⟨_, R2, e2, T, _, rfl, ⟨.inl (.inl upd_same), fun z => nomatch z⟩, .int (i : Nat), [x0], rfl, ?_, x0, [], rfl, DP.mono e2.sub _ _ g3, rfl⟩
    show V.int _ = V.int _
    rw [Nat.zero_add]
theorem di_enm {a : P} {e : Expr} {p pos tpos : Pos} {elts : List Expr} {kk : Nat} (hb : BltN X "enumerate") (hn : ns e = true) (ha : DE X ex W a e) : DI X ex W (.enm a) (.Tuple elts kk tpos) (.Call (.Name "enumerate" p) [e] [] pos) := by
  obtain ⟨t, pt, jt⟩ := ha
  refine ⟨_, pi_enum hb.1 hb.2 (pa_cons pt pa_nil (star_cons hn)) (by rw [star_cons hn]; rfl), fun HF H0 H al S r s Q R L h => ?_⟩
  simp only [evalI] at h
  refine jt _ _ _ _ _ _ _ _ R L (h.bind fun u S1 v H1 H01 al1 e1 R1 u1 h1 => ?_)
  split at h1
  · rename_i xs
    obtain ⟨a, vs, rfl, h2, h3⟩ := u1
    exact ⟨a, vs, rfl, SqL.of (R1.fz _ _ h2), h1.now R1 (yl_enum h2 h3)⟩
  · exact h1.elim
end
end PD
/-! Part W: zip of three lists. -/
namespace PD
open PySem PySem.Spec PyProof.Rows L2
open PySem.Sem (wp)
abbrev IsTri (h : Heap) (T : Addr) (a b c : Value) : Prop := h.get? T = some { cls := .type "tuple", data := .seq #[a, b, c] }
theorem typeCall_zip3 (a b c : Value) : checkTypeCall "zip" ⟨[a, b, c], []⟩ = pure () := by kernel_rfl
theorem newCall_zip3 (a b c : Value) : checkBuiltinCall "zip.__new__" ⟨[.type "zip", a, b, c], []⟩ = pure () := by kernel_rfl
theorem args_oinit4 (a b c d : Value) : argsOk "object.__init__" ⟨[a, b, c, d], []⟩ := by
  unfold argsOk; rw [signature?_of (id := "object.__init__") (n := ['_', '_', 't', 'i', 'n', 'i', '_', '_']) (o := ['t', 'c', 'e', 'j', 'b', 'o']) (by kernel_rfl) F.owner_object]; kernel_rfl
theorem ltN {a b : Nat} (h : a < b) : @LT.lt Addr _ a b := h
theorem neN {a b : Nat} (h : a ≠ b) : @Ne Addr a b := h
/-- all that stands, apart from the five cells that a turn moves -/
def Kp (I : Nat) (h h' : Heap) : Prop := ∀ c o, c ≠ I → c ≠ I + 1 → c ≠ I + 2 → c ≠ I + 4 → c ≠ I + 5 → h.get? c = some o → h'.get? c = some o
section
variable {prog : Program} {w : World} {A : Around} {E : Value → Shared → Prop} {s : Shared}
theorem updSeq3 {T : Addr} {a b c x : Value} {k : Nat} {Q : Unit → Shared → Prop} (hT : IsTri s.heap T a b c)
    (h : ∀ h', h'.get? T = some { cls := .type "tuple", data := .seq ((#[a, b, c] : Array Value).setIfInBounds k x) } → Heap.SameBut T s.heap h' → Q () { s with heap := h' }) :
    wpAny (model prog w) A (updateSeq T (·.setIfInBounds k x)) Q E s := by
  refine wpAny_updateSeq hT rfl (h _ ?_ (Heap.SameBut.update ..))
  rw [Heap.get?_update_self _ hT rfl]
  simp [Obj.mapSeq]
theorem zip3_item {I l1 l2 l3 k : Nat} {xs ys zs : Array Value} {x y v a b c : Value} {Q : Value → Shared → Prop} (L1 : l1 < I) (L2 : l2 < I) (L3 : l3 < I)
    (hz : IsZip s.heap (I + 5) (I + 3) (I + 4) .none) (hTI : IsTri s.heap (I + 3) (.ref I) (.ref (I + 1)) (.ref (I + 2))) (hTO : IsTri s.heap (I + 4) a b c)
    (h1 : s.heap.IsListIter I l1 k) (h2 : s.heap.IsListIter (I + 1) l2 k) (h3 : s.heap.IsListIter (I + 2) l3 k) (hl1 : s.heap.IsList l1 xs) (hl2 : s.heap.IsList l2 ys) (hl3 : s.heap.IsList l3 zs)
    (hx : xs[k]? = some x) (hy : ys[k]? = some y) (hv : zs[k]? = some v)
    (hQ : ∀ h', IsZip h' (I + 5) (I + 3) (I + 4) (rawInt s.heap.objs.size) → IsTri h' (I + 4) x y v → h'.IsListIter I l1 (k + 1) → h'.IsListIter (I + 1) l2 (k + 1) → h'.IsListIter (I + 2) l3 (k + 1) → IsTri h' s.heap.objs.size x y v → Kp I s.heap h' → Q (.ref s.heap.objs.size) { s with heap := h' }) :
    wpAny (model prog w) A (Builtin.«zip.__next__» ⟨[.ref (I + 5)], []⟩) (fun fin s' => ∃ v, fin = .done (.ret v) ∧ Q v s') E s := by
  show wpAny _ _ (field (.ref (I + 5)) 2 >>= _) _ _ _
  refine wpAny_bind (wpAny_field hz rfl (x := .bool false) rfl ?_)
  show wpAny _ _ (field (.ref (I + 5)) 3 >>= _) _ _ _
  refine wpAny_bind (wpAny_field hz rfl (x := .ref (I + 3)) rfl ?_)
  refine wpAny_bind (wpAny_seqItems hTI rfl ?_)
  show wpAny _ _ (Builtin.SmallTypes.ownedTupleIsFree (.ref (I + 5)) >>= _) _ _ _
  refine wpAny_bind ?_
  unfold Builtin.SmallTypes.ownedTupleIsFree
  refine wpAny_bind (wpAny_field hz rfl (x := .none) rfl (wpAny_pure ?_))
  simp only [if_true]
  refine wpAny_bind (wpAny_rule ?_)
  refine wpAny_bind (wpAny_field hz rfl (x := .ref (I + 4)) rfl ?_)
  refine wpAny_bind (wpAny_setField_rec hz (by simp) fun g1 hz1 e1 => ?_)
  replace hz1 : IsZip g1 (I + 5) (I + 3) (I + 4) .ellipsis := hz1
  refine wpAny_bind ?_
  simp only [List.zipIdx_cons, List.zipIdx_nil, List.forIn_cons, List.forIn_nil]
  have k1 : ∀ c o, c ≠ I + 5 → s.heap.get? c = some o → g1.get? c = some o := fun c o n q => e1.extBut _ _ n q
  refine wpAny_bind (wpAny_bind (wpAny_onRaise ?_))
  show wpAny _ _ (Builtin.SmallTypes.nextOf (.ref I) >>= _) _ _ _
  refine wpAny_bind (wpAny_nextOf_list_item (h1.at fun o q => k1 _ o (neN (by omega)) q) (hl1.at fun o q => k1 _ o (neN (by omega)) q) hx fun g2 j1 e2 => wpAny_pure ?_)
  have k2 : ∀ c o, c ≠ I + 5 → c ≠ I → s.heap.get? c = some o → g2.get? c = some o := fun c o n m q => e2.extBut _ _ m (k1 c o n q)
  refine wpAny_bind (wpAny_seqItems (k2 _ _ (neN (by omega)) (neN (by omega)) hTO) rfl ?_)
  refine wpAny_bind (updSeq3 (k2 _ _ (neN (by omega)) (neN (by omega)) hTO) fun g3 t3 e3 => ?_)
  replace t3 : IsTri g3 (I + 4) x b c := t3
  refine wpAny_bind (wpAny_letGo (wpAny_pure ?_))
  have k3 : ∀ c o, c ≠ I + 5 → c ≠ I → c ≠ I + 4 → s.heap.get? c = some o → g3.get? c = some o := fun c o n m p q => e3.extBut _ _ p (k2 c o n m q)
  refine wpAny_bind (wpAny_bind (wpAny_onRaise ?_))
  show wpAny _ _ (Builtin.SmallTypes.nextOf (.ref (I + 1)) >>= _) _ _ _
  refine wpAny_bind (wpAny_nextOf_list_item (h2.at fun o q => k3 _ o (neN (by omega)) (neN (by omega)) (neN (by omega)) q) (hl2.at fun o q => k3 _ o (neN (by omega)) (neN (by omega)) (neN (by omega)) q) hy fun g4 j2 e4 => wpAny_pure ?_)
  have t4 : IsTri g4 (I + 4) x b c := e4.extBut _ _ (neN (by omega)) t3
  refine wpAny_bind (wpAny_seqItems t4 rfl ?_)
  refine wpAny_bind (updSeq3 t4 fun g5 t5 e5 => ?_)
  replace t5 : IsTri g5 (I + 4) x y c := t5
  refine wpAny_bind (wpAny_letGo (wpAny_pure ?_))
  have k5 : ∀ c o, c ≠ I + 5 → c ≠ I → c ≠ I + 1 → c ≠ I + 4 → s.heap.get? c = some o → g5.get? c = some o := fun c o n m r p q => e5.extBut _ _ p (e4.extBut _ _ r (k3 c o n m p q))
  refine wpAny_bind (wpAny_bind (wpAny_onRaise ?_))
  show wpAny _ _ (Builtin.SmallTypes.nextOf (.ref (I + 2)) >>= _) _ _ _
  refine wpAny_bind (wpAny_nextOf_list_item (h3.at fun o q => k5 _ o (neN (by omega)) (neN (by omega)) (neN (by omega)) (neN (by omega)) q) (hl3.at fun o q => k5 _ o (neN (by omega)) (neN (by omega)) (neN (by omega)) (neN (by omega)) q) hv fun g6 j3 e6 => wpAny_pure ?_)
  have t6 : IsTri g6 (I + 4) x y c := e6.extBut _ _ (neN (by omega)) t5
  refine wpAny_bind (wpAny_seqItems t6 rfl ?_)
  refine wpAny_bind (updSeq3 t6 fun g7 t7 e7 => ?_)
  replace t7 : IsTri g7 (I + 4) x y v := t7
  refine wpAny_bind (wpAny_letGo (wpAny_pure (wpAny_pure ?_)))
  have k7 : Kp I s.heap g7 := fun c o n0 n1 n2 n4 n5 q => e7.extBut _ _ n4 (e6.extBut _ _ n2 (k5 c o n5 n0 n1 n4 q))
  refine wpAny_bind (wpAny_seqItems t7 rfl ?_)
  refine wpAny_bind (wpAny_newTuple ?_)
  have hsz : g7.objs.size = s.heap.objs.size := by rw [e7.1, e6.1, e5.1, e4.1, e3.1, e2.1, e1.1]
  have z7 : IsZip g7 (I + 5) (I + 3) (I + 4) .ellipsis := e7.extBut _ _ (neN (by omega)) (e6.extBut _ _ (neN (by omega)) (e5.extBut _ _ (neN (by omega)) (e4.extBut _ _ (neN (by omega)) (e3.extBut _ _ (neN (by omega)) (e2.extBut _ _ (neN (by omega)) hz1)))))
  have j1' : g7.IsListIter I l1 (k + 1) := j1.at fun o q => e7.extBut _ _ (neN (by omega)) (e6.extBut _ _ (neN (by omega)) (e5.extBut _ _ (neN (by omega)) (e4.extBut _ _ (neN (by omega)) (e3.extBut _ _ (neN (by omega)) q))))
  have j2' : g7.IsListIter (I + 1) l2 (k + 1) := j2.at fun o q => e7.extBut _ _ (neN (by omega)) (e6.extBut _ _ (neN (by omega)) (e5.extBut _ _ (neN (by omega)) q))
  have j3' : g7.IsListIter (I + 2) l3 (k + 1) := j3.at fun o q => e7.extBut _ _ (neN (by omega)) q
  have hzlt : I + 5 < g7.objs.size := Heap.lt_size z7
  show wpAny _ _ (Builtin.SmallTypes.ownedTupleHandOut (.ref (I + 5)) (.ref g7.objs.size) >>= _) _ _ _
  refine wpAny_bind ?_
  unfold Builtin.SmallTypes.ownedTupleHandOut
  have z8 : IsZip (g7.push { cls := .type "tuple", data := .seq #[x, y, v] }) (I + 5) (I + 3) (I + 4) .ellipsis := Heap.get?_push_of_some _ z7
  refine wpAny_bind (wpAny_setField_rec z8 (by simp) fun g9 z9 e9 => ?_)
  replace z9 : IsZip g9 (I + 5) (I + 3) (I + 4) (rawInt g7.objs.size) := z9
  refine wpAny_setField_rec z9 (by simp) fun g10 z10 e10 => ?_
  replace z10 : IsZip g10 (I + 5) (I + 3) (I + 4) (rawInt g7.objs.size) := z10
  have up : ∀ c o, c ≠ I + 5 → g7.get? c = some o → g10.get? c = some o := fun c o c1 e => e10.extBut _ _ c1 (e9.extBut _ _ c1 (Heap.get?_push_of_some _ e))
  have tN : IsTri g10 g7.objs.size x y v := e10.extBut _ _ (Nat.ne_of_gt hzlt) (e9.extBut _ _ (Nat.ne_of_gt hzlt) (Heap.get?_push_size _ rfl))
  rw [hsz] at z10 tN
  refine wpAny_pure ⟨_, rfl, ?_⟩
  show Q (.ref g7.objs.size) _
  rw [hsz]
  exact hQ g10 z10 (up _ _ (neN (by omega)) t7) (j1'.at fun o e => up _ o (neN (by omega)) e) (j2'.at fun o e => up _ o (neN (by omega)) e) (j3'.at fun o e => up _ o (neN (by omega)) e) tN fun c o n0 n1 n2 n4 n5 e => up c o n5 (k7 c o n0 n1 n2 n4 n5 e)
theorem zip3_end {I l1 l2 l3 k : Nat} {xs ys zs : Array Value} {a b c : Value} {Q : Fin → Shared → Prop} (hh : A.handled = none) (L1 : l1 < I) (L2 : l2 < I) (L3 : l3 < I)
    (hz : IsZip s.heap (I + 5) (I + 3) (I + 4) .none) (hTI : IsTri s.heap (I + 3) (.ref I) (.ref (I + 1)) (.ref (I + 2))) (hTO : IsTri s.heap (I + 4) a b c)
    (h1 : s.heap.IsListIter I l1 k) (h2 : s.heap.IsListIter (I + 1) l2 k) (h3 : s.heap.IsListIter (I + 2) l3 k) (hl1 : s.heap.IsList l1 xs) (hl2 : s.heap.IsList l2 ys) (hl3 : s.heap.IsList l3 zs)
    (hx : xs[k]? = none)
    (hE : ∀ h' e, Kp I s.heap h' → (∃ o, h'.get? e = some o ∧ o.cls = .type "StopIteration") → E (.ref e) { s with heap := h' }) :
    wpAny (model prog w) A (Builtin.«zip.__next__» ⟨[.ref (I + 5)], []⟩) Q E s := by
  show wpAny _ _ (field (.ref (I + 5)) 2 >>= _) _ _ _
  refine wpAny_bind (wpAny_field hz rfl (x := .bool false) rfl ?_)
  show wpAny _ _ (field (.ref (I + 5)) 3 >>= _) _ _ _
  refine wpAny_bind (wpAny_field hz rfl (x := .ref (I + 3)) rfl ?_)
  refine wpAny_bind (wpAny_seqItems hTI rfl ?_)
  show wpAny _ _ (Builtin.SmallTypes.ownedTupleIsFree (.ref (I + 5)) >>= _) _ _ _
  refine wpAny_bind ?_
  unfold Builtin.SmallTypes.ownedTupleIsFree
  refine wpAny_bind (wpAny_field hz rfl (x := .none) rfl (wpAny_pure ?_))
  simp only [if_true]
  refine wpAny_bind (wpAny_rule ?_)
  refine wpAny_bind (wpAny_field hz rfl (x := .ref (I + 4)) rfl ?_)
  refine wpAny_bind (wpAny_setField_rec hz (by simp) fun g1 hz1 e1 => ?_)
  replace hz1 : IsZip g1 (I + 5) (I + 3) (I + 4) .ellipsis := hz1
  refine wpAny_bind ?_
  simp only [List.zipIdx_cons, List.zipIdx_nil, List.forIn_cons, List.forIn_nil]
  have k1 : ∀ c o, c ≠ I + 5 → s.heap.get? c = some o → g1.get? c = some o := fun c o n q => e1.extBut _ _ n q
  refine wpAny_bind (wpAny_bind (wpAny_onRaise ?_))
  show wpAny _ _ (Builtin.SmallTypes.nextOf (.ref I) >>= _) _ _ _
  refine wpAny_bind (wpAny_nextOf_list_end hh (h1.at fun o q => k1 _ o (neN (by omega)) q) (hl1.at fun o q => k1 _ o (neN (by omega)) q) hx fun g2 e e2 he => ?_)
  obtain ⟨oe, hoe, hce⟩ := he
  have z2 : IsZip g2 (I + 5) (I + 3) (I + 4) .ellipsis := e2 _ _ (neN (by omega)) hz1
  have hez : e ≠ I + 5 := fun x => by subst x; rw [z2] at hoe; cases hoe; simp at hce
  exact wpAny_setField_rec z2 (by simp) fun g3 _ e3 => hE g3 e (fun c o n0 _ _ _ n5 x => e3.extBut _ _ n5 (e2 _ _ n0 (k1 c o n5 x))) ⟨oe, e3.extBut _ _ hez hoe, hce⟩
theorem next3_item {I l1 l2 l3 k : Nat} {xs ys zs : Array Value} {x y v a b c : Value} {Q : Option Value → Shared → Prop} (L1 : l1 < I) (L2 : l2 < I) (L3 : l3 < I)
    (hz : IsZip s.heap (I + 5) (I + 3) (I + 4) .none) (hTI : IsTri s.heap (I + 3) (.ref I) (.ref (I + 1)) (.ref (I + 2))) (hTO : IsTri s.heap (I + 4) a b c)
    (h1 : s.heap.IsListIter I l1 k) (h2 : s.heap.IsListIter (I + 1) l2 k) (h3 : s.heap.IsListIter (I + 2) l3 k) (hl1 : s.heap.IsList l1 xs) (hl2 : s.heap.IsList l2 ys) (hl3 : s.heap.IsList l3 zs)
    (hx : xs[k]? = some x) (hy : ys[k]? = some y) (hv : zs[k]? = some v)
    (hQ : ∀ h', IsZip h' (I + 5) (I + 3) (I + 4) (rawInt s.heap.objs.size) → IsTri h' (I + 4) x y v → h'.IsListIter I l1 (k + 1) → h'.IsListIter (I + 1) l2 (k + 1) → h'.IsListIter (I + 2) l3 (k + 1) → IsTri h' s.heap.objs.size x y v → Kp I s.heap h' → Q (some (.ref s.heap.objs.size)) { s with heap := h' }) :
    wpAny (model prog w) A (pyNext (.ref (I + 5))) Q E s := by
  have hT : s.TypeIs (.ref (I + 5)) "zip" := ⟨_, hz, rfl⟩
  unfold pyNext
  exact wpAny_bind (wpAny_attempt (wpAny_callSpecial?_slot (name := Str.ofString "__next__") hT F.slot_zip_next
    (wpAny_call_entry F.slot_zip_next hT F.entry_zip_next
      (zip3_item L1 L2 L3 hz hTI hTO h1 h2 h3 hl1 hl2 hl3 hx hy hv fun h' a1 a2 a3 a4 a5 a6 a7 => wpAny_pure (hQ h' a1 a2 a3 a4 a5 a6 a7)) (F.args_zip_next_1 _))))
theorem next3_end {I l1 l2 l3 k : Nat} {xs ys zs : Array Value} {a b c : Value} {Q : Option Value → Shared → Prop} (hh : A.handled = none) (L1 : l1 < I) (L2 : l2 < I) (L3 : l3 < I)
    (hz : IsZip s.heap (I + 5) (I + 3) (I + 4) .none) (hTI : IsTri s.heap (I + 3) (.ref I) (.ref (I + 1)) (.ref (I + 2))) (hTO : IsTri s.heap (I + 4) a b c)
    (h1 : s.heap.IsListIter I l1 k) (h2 : s.heap.IsListIter (I + 1) l2 k) (h3 : s.heap.IsListIter (I + 2) l3 k) (hl1 : s.heap.IsList l1 xs) (hl2 : s.heap.IsList l2 ys) (hl3 : s.heap.IsList l3 zs)
    (hx : xs[k]? = none) (hQ : ∀ h', Kp I s.heap h' → Q none { s with heap := h' }) : wpAny (model prog w) A (pyNext (.ref (I + 5))) Q E s := by
  have hT : s.TypeIs (.ref (I + 5)) "zip" := ⟨_, hz, rfl⟩
  unfold pyNext
  refine wpAny_bind (wpAny_attempt (wpAny_callSpecial?_slot (name := Str.ofString "__next__") hT F.slot_zip_next
    (wpAny_call_entry F.slot_zip_next hT F.entry_zip_next (zip3_end hh L1 L2 L3 hz hTI hTO h1 h2 h3 hl1 hl2 hl3 hx fun h' e hk he => ?_) (F.args_zip_next_1 _))))
  obtain ⟨o, ho, hc⟩ := he
  refine wpAny_bind (wpAny_isInstance (T := "StopIteration") (b := true) ⟨o, ho, hc⟩ isSubtype_stop ?_)
  exact wpAny_pure (hQ _ hk)
end
abbrev liO (l : Addr) : Obj := { cls := .type "list_iterator", data := .fields #[.ref l, .int 0 0] }
abbrev z3a (h : Heap) (l1 l2 l3 : Addr) : Heap := ((h.push (liO l1)).push (liO l2)).push (liO l3)
abbrev z3b (h : Heap) (l1 l2 l3 : Addr) : Heap := (z3a h l1 l2 l3).push { cls := .type "tuple", data := .seq #[.ref h.objs.size, .ref (h.push (liO l1)).objs.size, .ref ((h.push (liO l1)).push (liO l2)).objs.size] }
abbrev z3c (h : Heap) (l1 l2 l3 : Addr) : Heap := (z3b h l1 l2 l3).push { cls := .type "tuple", data := .seq #[.none, .none, .none] }
abbrev z3d (h : Heap) (l1 l2 l3 : Addr) : Heap := (z3c h l1 l2 l3).push { cls := .type "zip", data := .fields #[.none, .bool false, .bool false, .ref (z3a h l1 l2 l3).objs.size, .ref (z3b h l1 l2 l3).objs.size] }
theorem meets_zip3_new (l1 l2 l3 : Addr) (xs ys zs : Array Value) :
    Meets (Builtin.«zip.__new__» ⟨[.type "zip", .ref l1, .ref l2, .ref l3], []⟩) (fun _ R s => s.heap.IsList l1 xs ∧ s.heap.IsList l2 ys ∧ s.heap.IsList l3 zs ∧
      R (.ok (.ret (.ref (z3c s.heap l1 l2 l3).objs.size))) { s with heap := z3d s.heap l1 l2 l3 }) :=
  .of_wp fun prog w A R s h => by
    obtain ⟨hp, g, d, tk, os⟩ := s; obtain ⟨hl1, hl2, hl3, h⟩ := h
    have hsub := sub_zip
    have hL1 : Heap.IsList (Shared.heap ⟨hp, g, d, tk, os⟩) l1 xs := hl1
    have hL2 : Heap.IsList (Shared.heap ⟨hp.push { cls := .type "list_iterator", data := .fields #[.ref l1, .int 0 0] }, g, d, tk, os⟩) l2 ys := Heap.IsList.push hl2 _
    have hL3 : Heap.IsList (Shared.heap ⟨(hp.push { cls := .type "list_iterator", data := .fields #[.ref l1, .int 0 0] }).push { cls := .type "list_iterator", data := .fields #[.ref l2, .int 0 0] }, g, d, tk, os⟩) l3 zs := Heap.IsList.push (Heap.IsList.push hl3 _) _
    wp_walk using wpAny_pyIter_list hL1, wpAny_pyIter_list hL2, wpAny_pyIter_list hL3
    exact ⟨_, rfl, h⟩
section
variable {prog : Program} {w : World} {A : Around} {E : Value → Shared → Prop} {s : Shared}
theorem call_zip3 {l1 l2 l3 : Addr} {xs ys zs : Array Value} {Q : Value → Shared → Prop} (hl1 : s.heap.IsList l1 xs) (hl2 : s.heap.IsList l2 ys) (hl3 : s.heap.IsList l3 zs)
    (h : ∀ h', IsZip h' (s.heap.objs.size + 5) (s.heap.objs.size + 3) (s.heap.objs.size + 4) .none → IsTri h' (s.heap.objs.size + 3) (.ref s.heap.objs.size) (.ref (s.heap.objs.size + 1)) (.ref (s.heap.objs.size + 2)) →
      IsTri h' (s.heap.objs.size + 4) .none .none .none → h'.IsListIter s.heap.objs.size l1 0 → h'.IsListIter (s.heap.objs.size + 1) l2 0 → h'.IsListIter (s.heap.objs.size + 2) l3 0 →
      (∀ c o, s.heap.get? c = some o → h'.get? c = some o) → Q (.ref (s.heap.objs.size + 5)) { s with heap := h' }) :
    wpAny (model prog w) A (call (.type "zip") [.ref l1, .ref l2, .ref l3]) Q E s := by
  refine callType_new F.called_zip (by decide) (typeCall_zip3 _ _ _) (newCall_zip3 _ _ _) (fun obj => args_oinit4 obj _ _ _) F.entry_zip_new
    (meets_zip3_new l1 l2 l3 xs ys zs) ⟨hl1, hl2, hl3, ?_⟩
  have z1 : (s.heap.push (liO l1)).objs.size = s.heap.objs.size + 1 := Heap.size_push ..
  have z2 : ((s.heap.push (liO l1)).push (liO l2)).objs.size = s.heap.objs.size + 2 := by rw [Heap.size_push, z1]
  have z3 : (z3a s.heap l1 l2 l3).objs.size = s.heap.objs.size + 3 := by rw [Heap.size_push, z2]
  have z4 : (z3b s.heap l1 l2 l3).objs.size = s.heap.objs.size + 4 := by rw [Heap.size_push, z3]
  have z5 : (z3c s.heap l1 l2 l3).objs.size = s.heap.objs.size + 5 := by rw [Heap.size_push, z4]
  have g6 : (z3d s.heap l1 l2 l3).get? (z3c s.heap l1 l2 l3).objs.size = some _ := Heap.get?_push_size _ rfl
  have g5 : (z3d s.heap l1 l2 l3).get? (z3b s.heap l1 l2 l3).objs.size = some _ := Heap.get?_push_of_some _ (Heap.get?_push_size _ rfl)
  have g4 : (z3d s.heap l1 l2 l3).get? (z3a s.heap l1 l2 l3).objs.size = some _ := Heap.get?_push_of_some _ (Heap.get?_push_of_some _ (Heap.get?_push_size _ rfl))
  have g3 : (z3d s.heap l1 l2 l3).get? ((s.heap.push (liO l1)).push (liO l2)).objs.size = some _ := Heap.get?_push_of_some _ (Heap.get?_push_of_some _ (Heap.get?_push_of_some _ (Heap.get?_push_size _ rfl)))
  have g2 : (z3d s.heap l1 l2 l3).get? (s.heap.push (liO l1)).objs.size = some _ := Heap.get?_push_of_some _ (Heap.get?_push_of_some _ (Heap.get?_push_of_some _ (Heap.get?_push_of_some _ (Heap.get?_push_size _ rfl))))
  have g1 : (z3d s.heap l1 l2 l3).get? s.heap.objs.size = some _ := Heap.get?_push_of_some _ (Heap.get?_push_of_some _ (Heap.get?_push_of_some _ (Heap.get?_push_of_some _ (Heap.get?_push_of_some _ (Heap.get?_push_size _ rfl)))))
  show _ ∧ _
  rw [z3, z4, z5] at g6
  rw [z4] at g5
  rw [z1, z2, z3] at g4
  rw [z2] at g3
  rw [z1] at g2
  rw [z5]
  exact ⟨⟨_, g6, rfl⟩, h _ g6 g4 g5 ⟨_, g1, rfl, rfl⟩ ⟨_, g2, rfl, rfl⟩ ⟨_, g3, rfl, rfl⟩ fun c o x =>
    Heap.get?_push_of_some _ (Heap.get?_push_of_some _ (Heap.get?_push_of_some _ (Heap.get?_push_of_some _ (Heap.get?_push_of_some _ (Heap.get?_push_of_some _ x)))))⟩
end
/-- three lists of one length -/
def Itz3 (K : PySem.W.Frag) (a b c : Addr) : L2.It :=
  ⟨fun i H => ∃ (xs ys zs : List V) (x y z : V), SqL K H a xs ∧ SqL K H b ys ∧ SqL K H c zs ∧ xs[i]? = some x ∧ ys[i]? = some y ∧ zs[i]? = some z,
    fun i H v H' => ∃ T x y z, v = .ref T ∧ H T = none ∧ H' = upd H T (.tup [x, y, z]) ∧ (∀ xs, SqL K H a xs → xs[i]? = some x) ∧ (∀ ys, SqL K H b ys → ys[i]? = some y) ∧ ∀ zs, SqL K H c zs → zs[i]? = some z,
    fun i H => ∃ xs ys zs : List V, SqL K H a xs ∧ SqL K H b ys ∧ SqL K H c zs ∧ xs.length ≤ i⟩
theorem turn_zip3 {P : Program} {w : World} {K : PySem.W.Frag} {elts : List Expr} {kk : Nat} {tpos : Pos} {a b c J : Nat} (L1 : a < J) (L2 : b < J) (L3 : c < J) :
    Turn P w K (.Tuple elts kk tpos) (Itz3 K a b c) [J + 5, J + 3, J + 4, J, J + 1, J + 2] (J + 5) (fun i h => IsZip h (J + 5) (J + 3) (J + 4) .none ∧ IsTri h (J + 3) (.ref J) (.ref (J + 1)) (.ref (J + 2)) ∧ (∃ x y z, IsTri h (J + 4) x y z) ∧ h.IsListIter J a i ∧ h.IsListIter (J + 1) b i ∧ h.IsListIter (J + 2) c i) where
  mem := by simp
  obj := fun i h st d hc => by
    obtain ⟨hz, hTI, ⟨x, y, z, hTO⟩, ⟨o1, e1, _, d1⟩, ⟨o2, e2, _, d2⟩, ⟨o3, e3, _, d3⟩⟩ := st
    have e' : d = J + 5 ∨ d = J + 3 ∨ d = J + 4 ∨ d = J ∨ d = J + 1 ∨ d = J + 2 := by simpa using hc
    rcases e' with q | q | q | q | q | q
    · rw [q]; exact ⟨_, hz, fun v q => nomatch q⟩
    · rw [q]; exact ⟨_, hTI, fun v q => nomatch q⟩
    · rw [q]; exact ⟨_, hTO, fun v q => nomatch q⟩
    · rw [q]; exact ⟨o1, e1, fun v q => by rw [d1] at q; cases q⟩
    · rw [q]; exact ⟨o2, e2, fun v q => by rw [d2] at q; cases q⟩
    · rw [q]; exact ⟨o3, e3, fun v q => by rw [d3] at q; cases q⟩
  keep := fun i h h' st k => by
    obtain ⟨hz, hTI, ⟨x, y, z, hTO⟩, h1, h2, h3⟩ := st
    exact ⟨k (J + 5) (by simp) _ hz, k (J + 3) (by simp) _ hTI, ⟨x, y, z, k (J + 4) (by simp) _ hTO⟩, h1.at fun o q => k J (by simp) o q, h2.at fun o q => k (J + 1) (by simp) o q, h3.at fun o q => k (J + 2) (by simp) o q⟩
  item := by
    intro X hP hw hK hc i pins s σ H E I hf st hg
    subst hP hw hK
    obtain ⟨hz, hTI, ⟨x0, y0, z0, hTO⟩, h1, h2, h3⟩ := st
    obtain ⟨xs, ys, zs, x, y, z, hqx, hqy, hqz, hx, hy, hzz⟩ := hg
    obtain ⟨its, rv, p, _⟩ := I.list hqx
    obtain ⟨its2, rv2, p2, _⟩ := I.list hqy
    obtain ⟨its3, rv3, p3, _⟩ := I.list hqz
    obtain ⟨u, hu, ru⟩ := rv.get hx
    obtain ⟨u2, hu2, ru2⟩ := rv2.get hy
    obtain ⟨u3, hu3, ru3⟩ := rv3.get hzz
    have hzl : J + 5 < s.heap.objs.size := Heap.lt_size hz
    refine next3_item L1 L2 L3 hz hTI hTO h1 h2 h3 p.isList p2.isList p3.isList (x := u) (y := u2) (v := u3) (by simpa using hu) (by simpa using hu2) (by simpa using hu3) fun h' z' TO' h1' h2' h3' hT hk => ?_
    refine ⟨_, rfl, wpAny_letOwnedTupleGo_zip (s := { s with heap := h' }) z' fun h'' z'' sb => ?_⟩
    have hT2 : h''.get? s.heap.objs.size = some { cls := .type "tuple", data := .seq #[u, u2, u3] } := (sb.2 _ (Nat.ne_of_gt hzl)).trans hT
    have new : ObjOk X.prog X.w (upd H s.heap.objs.size (.tup [x, y, z])) h'' s.heap.objs.size (.tup [x, y, z]) :=
      ⟨by show 3 ≤ sizeLine; decide, [u, u2, u3], .cons ru (.cons ru2 (.cons ru3 .nil)), ⟨_, hT2, rfl, _, rfl⟩⟩
    have I1 : Inv X pins σ (upd H s.heap.objs.size (.tup [x, y, z])) { s with heap := h'' } :=
      I.turnedNew (t' := s.toks) (ch := [J + 5, J + 3, J + 4, J, J + 1, J + 2]) (fun d o hb q => (sb.2 d (fun q' => hb (by simp [q']))).trans (hk d o (fun q' => hb (by simp [q'])) (fun q' => hb (by simp [q'])) (fun q' => hb (by simp [q'])) (fun q' => hb (by simp [q'])) (fun q' => hb (by simp [q'])) q)) hf (Nat.le_refl _) new
    refine ⟨.ref s.heap.objs.size, _, I1, rfl, ⟨_, x, y, z, rfl, I.hok.fresh (Nat.le_refl _), rfl, fun l hl => by rw [I.list_inj hl hqx]; exact hx, fun l hl => by rw [I.list_inj hl hqy]; exact hy, fun l hl => by rw [I.list_inj hl hqz]; exact hzz⟩, ⟨z'', ?_, ⟨u, u2, u3, ?_⟩, ?_, ?_, ?_⟩, fun d hcm => ?_⟩
    · exact (sb.2 _ (neN (by omega))).trans (hk _ _ (neN (by omega)) (neN (by omega)) (neN (by omega)) (neN (by omega)) (neN (by omega)) hTI)
    · exact (sb.2 _ (neN (by omega))).trans TO'
    · exact h1'.at fun o q => (sb.2 _ (neN (by omega))).trans q
    · exact h2'.at fun o q => (sb.2 _ (neN (by omega))).trans q
    · exact h3'.at fun o q => (sb.2 _ (neN (by omega))).trans q
    · have hlt : d < s.heap.objs.size := by
        have e' : d = J + 5 ∨ d = J + 3 ∨ d = J + 4 ∨ d = J ∨ d = J + 1 ∨ d = J + 2 := by simpa using hcm
        have h5 : J + 5 < s.heap.objs.size := hzl
        rcases e' with q | q | q | q | q | q <;> rw [q] <;> exact ltN (by omega)
      rw [upd_ne (Nat.ne_of_lt hlt)]
      exact (hf d hcm).1
  done := by
    intro X hP hw hK hc i pins s σ H E I hf st hg
    subst hP hw hK
    obtain ⟨hz, hTI, ⟨x0, y0, z0, hTO⟩, h1, h2, h3⟩ := st
    obtain ⟨xs, ys, zs, hqx, hqy, hqz, hend⟩ := hg
    obtain ⟨its, rv, p, _⟩ := I.list hqx
    obtain ⟨its2, rv2, p2, _⟩ := I.list hqy
    obtain ⟨its3, rv3, p3, _⟩ := I.list hqz
    have l1 := rv.length
    have he : its.toArray[i]? = none := by simp; omega
    exact next3_end (I.ok.hd hc) L1 L2 L3 hz hTI hTO h1 h2 h3 p.isList p2.isList p3.isList he fun h' hk => ⟨rfl, I.turnedL (t' := s.toks) (ch := [J + 5, J + 3, J + 4, J, J + 1, J + 2]) (fun d o hb q =>
      hk d o (fun q' => hb (by simp [q'])) (fun q' => hb (by simp [q'])) (fun q' => hb (by simp [q'])) (fun q' => hb (by simp [q'])) (fun q' => hb (by simp [q'])) q) hf⟩
  self := fun A i s Q E st h => wpAny_pyIter_zip st.1 h
def iZip3 (K : PySem.W.Frag) (ta : TA) : TI := fun σ H R => ta σ H fun vs H1 => ∃ a b c xs ys zs, vs = [.ref a, .ref b, .ref c] ∧ SqL K H1 a xs ∧ SqL K H1 b ys ∧ SqL K H1 c zs ∧ R (Itz3 K a b c) H1
theorem pi_zip3 {X : Cx} {e e2 e3 : Expr} {ta : TA} {p pos tpos : Pos} {elts : List Expr} {kk : Nat} (hg : Gl X "zip") (hm : X.mg "zip" = none) (ha : PA X [e, e2, e3] ta)
    (hs : starEach [e, e2, e3] X.env = (false, eval e X.env) :: starEach [e2, e3] X.env := by rfl) (hpl : (backTo pos (starEach [e2, e3] X.env)).any (·.1) = false := by rfl) :
    PI X (.Tuple elts kk tpos) (.Call (.Name "zip" p) [e, e2, e3] [] pos) (iZip3 X.K ta) := by
  refine ⟨fun pins s σ H R I h => ?_⟩
  refine Call_ (ld_blt I hg hm PyProof.Rows.boot_zip (PyProof.Rows.callWith_type1 (thn (ha.run pos pins s σ H _ I h) fun us s1 ⟨vs, H1, I1, r1, q1⟩ => ?_) hs hpl))
  obtain ⟨a, b, c, xs, ys, zs, ex, hqx, hqy, hqz, q⟩ := q1
  subst ex
  cases r1 with
  | cons r rr =>
    cases rr with
    | cons r' rr =>
      cases rr with
      | cons r'' rr =>
        cases rr
        cases r
        cases r'
        cases r''
        obtain ⟨its, rv, p1, _⟩ := I1.list hqx
        obtain ⟨its2, rv2, p2, _⟩ := I1.list hqy
        obtain ⟨its3, rv3, p3, _⟩ := I1.list hqz
        refine call_zip3 p1.isList p2.isList p3.isList fun h' hz hTI hTO h1 h2 h3 hk => wpAny_pyIter_zip hz ?_
        have I2 : Inv X pins σ H1 { s1 with heap := h' } := I1.kept (t' := s1.toks) hk
        refine ⟨s1.heap.objs.size + 5, [s1.heap.objs.size + 5, s1.heap.objs.size + 3, s1.heap.objs.size + 4, s1.heap.objs.size, s1.heap.objs.size + 1, s1.heap.objs.size + 2], _, _, H1, rfl, I2, turn_zip3 p1.lt p2.lt p3.lt, ⟨hz, hTI, ⟨_, _, _, hTO⟩, h1, h2, h3⟩, fun d hcm => ?_, q⟩
        have e' : d = s1.heap.objs.size + 5 ∨ d = s1.heap.objs.size + 3 ∨ d = s1.heap.objs.size + 4 ∨ d = s1.heap.objs.size ∨ d = s1.heap.objs.size + 1 ∨ d = s1.heap.objs.size + 2 := by simpa using hcm
        have hle : s1.heap.objs.size ≤ d := by
          rcases e' with z | z | z | z | z | z <;> rw [z] <;> first | exact Nat.le_add_right _ _ | exact Nat.le_refl _
        exact I1.fpOk hle (I1.hok.fresh hle)
section
variable {X : Cx} {ex : ExK} {W : WX}
theorem zip3U_len : ∀ (xs ys zs : List PyData), xs.length = ys.length → ys.length = zs.length → (zip3U xs ys zs).length = xs.length
  | [], _, _, _, _ => by simp [zip3U]
  | x :: xs, [], _, h, _ => by simp at h
  | x :: xs, y :: ys, [], _, h => by simp at h
  | x :: xs, y :: ys, z :: zs, h1, h2 => by
    simp only [zip3U, List.length_cons]
    rw [zip3U_len xs ys zs (by simpa using h1) (by simpa using h2)]
theorem zip3U_get : ∀ {xs ys zs : List PyData} {i : Nat} {u : U}, (zip3U xs ys zs)[i]? = some u → ∃ x y z, xs[i]? = some x ∧ ys[i]? = some y ∧ zs[i]? = some z ∧ u = .tl [.d x, .d y, .d z]
  | [], _, _, _, _, h => by simp [zip3U] at h
  | x :: xs, [], _, _, _, h => by simp [zip3U] at h
  | x :: xs, y :: ys, [], _, _, h => by simp [zip3U] at h
  | x :: xs, y :: ys, z :: zs, 0, u, h => by
    simp [zip3U] at h
    exact ⟨x, y, z, rfl, rfl, rfl, h.symm⟩
  | x :: xs, y :: ys, z :: zs, i + 1, u, h => by
    obtain ⟨a, b, c, h1, h2, h3, h4⟩ := zip3U_get (xs := xs) (ys := ys) (zs := zs) (i := i) (u := u) (by simpa [zip3U] using h)
    exact ⟨a, b, c, by simpa using h1, by simpa using h2, by simpa using h3, h4⟩
theorem yl_zip3 {K : PySem.W.Frag} {H0 : Hp} {al : List Addr} {a b c : Addr} {xs ys zs : List PyData} {vs ws us : List V} (hv : H0 a = some (.lst vs)) (hw : H0 b = some (.lst ws)) (hu : H0 c = some (.lst us)) (d1 : DPs K H0 xs vs) (d2 : DPs K H0 ys ws) (d3 : DPs K H0 zs us) (l1 : xs.length = ys.length) (l2 : ys.length = zs.length) : Yl K ex H0 al (Itz3 K a b c) (zip3U xs ys zs) none := by
  intro i HF H0' H' al' S' s0 pre R _
  have q1 : SqL K H' a vs := SqL.of (R.fz _ _ (s0 _ _ hv))
  have q2 : SqL K H' b ws := SqL.of (R.fz _ _ (s0 _ _ hw))
  have q3 : SqL K H' c us := SqL.of (R.fz _ _ (s0 _ _ hu))
  have e1 := DPs.mono s0 _ _ d1
  have e2 := DPs.mono s0 _ _ d2
  have e3 := DPs.mono s0 _ _ d3
  have m1 := d1.length
  have m2 := d2.length
  have m3 := d3.length
  rw [zip3U_len xs ys zs l1 l2]
  refine ⟨fun hi => ?_, fun hi => ⟨vs, ws, us, q1, q2, q3, by omega⟩, fun u x H'' e y => ?_⟩
  · have i1 : i < vs.length := by omega
    have i2 : i < ws.length := by omega
    have i3 : i < us.length := by omega
    exact ⟨vs, ws, us, vs[i], ws[i], us[i], q1, q2, q3, List.getElem?_eq_getElem i1, List.getElem?_eq_getElem i2, List.getElem?_eq_getElem i3⟩
  · obtain ⟨T, x0, y0, z0, rfl, hT, rfl, f1, f2, f3⟩ := y
    obtain ⟨x, y, z, g1, g2, g3, rfl⟩ := zip3U_get e
    obtain ⟨v1, p1, n1⟩ := e1.get g1
    obtain ⟨v2, p2, n2⟩ := e2.get g2
    obtain ⟨v3, p3, n3⟩ := e3.get g3
    rw [f1 vs q1] at p1
    rw [f2 ws q2] at p2
    rw [f3 us q3] at p3
    cases p1
    cases p2
    cases p3
    obtain ⟨R2, x2⟩ := R.lay (o := .tup [x0, y0, z0]) hT
    exact ⟨_, R2, x2, T, _, rfl, .inl (.inl upd_same), x0, [y0, z0], rfl, DP.mono x2.sub _ _ n1, y0, [z0], rfl, DP.mono x2.sub _ _ n2, z0, [], rfl, DP.mono x2.sub _ _ n3, rfl⟩
theorem di_zip3 {ps : Ps} {e e2 e3 : Expr} {p pos tpos : Pos} {elts : List Expr} {kk : Nat} (hb : BltN X "zip") (hn : [e, e2, e3].all ns = true) (ha : DA X ex W ps [e, e2, e3]) : DI X ex W (.zp3 ps) (.Tuple elts kk tpos) (.Call (.Name "zip" p) [e, e2, e3] [] pos) := by
  obtain ⟨t, pt, jt⟩ := ha
  have hn2 : ns e = true ∧ [e2, e3].all ns = true := by simpa using hn
  refine ⟨_, pi_zip3 hb.1 hb.2 pt (star_cons hn2.1) (star_any hn2.2), fun HF H0 H al S r s Q R L h => ?_⟩
  simp only [evalI] at h
  refine jt _ _ _ _ _ _ _ _ R L (h.bind fun us S1 vs H1 H01 al1 e1 R1 u1 h1 => ?_)
  split at h1
  · rename_i xs ys zs
    split at h1
    · rename_i hl
      obtain ⟨v1, r1, rfl, ⟨a, va, rfl, a2, a3⟩, v2, r2, rfl, ⟨b, vb, rfl, b2, b3⟩, v3, r3, rfl, ⟨c, vc, rfl, c2, c3⟩, rfl⟩ := u1
      exact ⟨a, b, c, va, vb, vc, rfl, SqL.of (R1.fz _ _ a2), SqL.of (R1.fz _ _ b2), SqL.of (R1.fz _ _ c2), h1.now R1 (yl_zip3 a2 b2 c2 a3 b3 c3 hl.1 hl.2)⟩
    · exact h1.elim
  · exact h1.elim
end
end PD
/-! Part X: t.index(x), t a tuple of texts. -/
namespace PD
open PySem PySem.Spec PyProof.Rows L2
section
variable {X : Cx} {ex : ExK} {W : WX}
def tMT (K : PySem.W.Frag) (r : V → List V → Hp → VK → Prop) (to : TE) (t : TA) : TE := fun σ H Q => to σ H fun x H1 => (∃ a, x = .ref a ∧ NoD K H1 a) ∧ t σ H1 fun xs H2 => r x xs H2 Q
theorem noD_is {pins : List (Addr × Obj)} {σ : L2.St} {H : Hp} {s : Shared} {a : Addr} (I : Inv X pins σ H s) (h : NoD X.K H a) : s.TypeIs (.ref a) "tuple" ∧ ∃ ob, s.heap.get? a = some ob ∧ ob.dict = none := by
  rcases h with ⟨o, u, h1, h2, h3⟩ | ⟨o, h1, h2, h3⟩
  · obtain ⟨e, _⟩ := I.hok a _ h1
    exact ⟨⟨o, e, h2⟩, o, e, h3⟩
  · exact ⟨⟨o, I.kIn a o h1, h2⟩, o, I.kIn a o h1, h3⟩
theorem pe_mtT {o e : Expr} {es : List Expr} {to : TE} {t : TA} {name : Str} {apos cpos : Pos} {id : String} {r : V → List V → Hp → VK → Prop} (slot : Slot "tuple" name id) (hty : typeOf (.builtin id) = pure (.type "method_descriptor")) (hm : MtR X id r) (ho : PE X o to) (ha : PA X (e :: es) t)
    (hb : baseOk o = true) (hl : (apos.endLine == cpos.line) = true) (hn : (e :: es).all ns = true) (hlen : (e :: es).length < 30) : PE X (.Call (.Attribute o name apos) (e :: es) [] cpos) (tMT X.K r to t) := by
  have hn2 := hn
  simp only [List.all_cons, Bool.and_eq_true] at hn2
  refine ⟨fun pins s σ H Q I h => ?_⟩
  refine wpAny_Call_method_late (base_ok hb) (few_ok hn hlen) hl rfl (thn (ho.run pins s σ H _ I h) fun v s1 ⟨x, H1, I1, r1, ty, q1⟩ => ?_)
  obtain ⟨a, rfl, nd⟩ := ty
  cases r1
  obtain ⟨k1, k2⟩ := noD_is I1 nd
  refine ⟨"tuple", id, PySem.F.plainAttrs_tuple, slot, hty, k1, fun b z => by cases z; exact k2, ?_⟩
  have hA := ha.run cpos pins s1 σ H1 _ I1 q1
  have hS := star_any (pos := cpos) (env := X.env) hn
  rw [star_cons hn2.1] at hA hS ⊢
  refine Calls.callWith_builtin hS (Calls.evalArgs_plain ?_)
  exact thn hA fun us s2 ⟨vs, H2, I2, r2, q2⟩ => hm pins s2 σ H2 (.ref a) vs _ us Q I2 rfl r2 q2
theorem strA_strs : ∀ {ds : List PyData}, strA ds = true → ∃ ss : List Str, ds = ss.map .str
  | [], _ => ⟨[], rfl⟩
  | .str x :: r, h => by
    obtain ⟨ss, e⟩ := strA_strs (ds := r) h
    exact ⟨x :: ss, by rw [e]; rfl⟩
  | .none :: _, h => nomatch h
  | .bool _ :: _, h => nomatch h
  | .int _ :: _, h => nomatch h
  | .list _ :: _, h => nomatch h
  | .tuple _ :: _, h => nomatch h
  | .dict _ :: _, h => nomatch h
theorem strT_strs : ∀ {ds : List PyData}, strT ds = true → ∃ ss : List Str, ds = ss.map .str
  | .str x :: r, h => by
    obtain ⟨ss, e⟩ := strA_strs (ds := r) h
    exact ⟨x :: ss, by rw [e]; rfl⟩
  | [], h => nomatch h
  | .none :: _, h => nomatch h
  | .bool _ :: _, h => nomatch h
  | .int _ :: _, h => nomatch h
  | .list _ :: _, h => nomatch h
  | .tuple _ :: _, h => nomatch h
  | .dict _ :: _, h => nomatch h
theorem dps_strs {K : PySem.W.Frag} {H : Hp} : ∀ {ss : List Str} {vs : List V}, DPs K H (ss.map .str) vs → vs = ss.map V.str
  | [], _, h => h
  | _ :: _, _, ⟨_, _, h1, h2, h3⟩ => by cases h1; cases h2; rw [dps_strs h3]; rfl
theorem eqv_str (a b : Str) : PyData.eqv (.str a) (.str b) = (a == b) := by rfl
theorem indexT_ok : ∀ (W : WX) (HF H0 H : Hp) (al : List Addr) (S : Store) (s : L2.St) (Q : VK) (x z : PyData) (xs : List PyData) (v : V) (vs : List V),
    Rl X.K ex HF H0 H al S → Rd1 X.K H0 H x v → Rd1s X.K H0 H xs vs → Mth.sem .indexT x xs = some z → Post X.K ex W HF H0 al s (UP X.K ex) (.ok (.d z) S) Q →
    (fun x xs H Q => ∃ p, ∃ ys : List Str, ∃ z j, x = V.ref p ∧ xs = [V.str z] ∧ SqT X.K H p (ys.map V.str) ∧ ys[j]? = some z ∧ (∀ m, m < j → ys[m]? ≠ some z) ∧ Q (V.int (j : Nat)) H) v vs H Q := by
  intro W HF H0 H al S s Q x z xs v vs R hx hxs e h
  match x, xs, e with
  | .tuple ds, [.str y], e =>
    simp only [Mth.sem] at e
    split at e
    · rename_i hs
      obtain ⟨j, q, rfl⟩ := Option.map_eq_some_iff.mp e
      obtain ⟨w, rfl, hw⟩ := hxs.one
      cases hw
      obtain ⟨ss, rfl⟩ := strT_strs hs
      obtain ⟨a, ws, rfl, k2, k3⟩ := hx
      obtain ⟨g1, g2, g3⟩ := indexD_spec q
      have g1' : j < ss.length := by simpa using g1
      refine ⟨a, ss, y, j, rfl, rfl, by rw [← dps_strs k3]; exact sqT_same R.fz k2.sq, ?_, fun m hm z => ?_, h.now R rfl⟩
      · rw [List.getElem_map, eqv_str] at g2
        rw [List.getElem?_eq_getElem g1', eq_of_beq g2]
      · have hm' : m < ss.length := by omega
        have := g3 m (by simpa using hm') hm
        rw [List.getElem_map, eqv_str] at this
        rw [List.getElem?_eq_getElem hm'] at z
        rw [Option.some.inj z] at this
        simp at this
    · cases e
theorem recv_indexT {S : Store} {u : U} (h : recvU .indexT S u = true) : ∃ ds, rd S u = some (.tuple ds) ∧ strT ds = true := by
  cases q : rd S u with
  | none => simp [recvU, q] at h
  | some y => cases y <;> simp [recvU, q] at h ⊢; exact h
theorem de_mthT {a : P} {ps : Ps} {x e : Expr} {es : List Expr} {apos pos : Pos} (hb : baseOk x = true) (hl : (apos.endLine == pos.line) = true) (hn : (e :: es).all ns = true) (hlen : (e :: es).length < 30) (ha : DE X ex W a x) (he : DA X ex W ps (e :: es)) : DE X ex W (.mth .indexT a ps) (.Call (.Attribute x "index" apos) (e :: es) [] pos) := by
  obtain ⟨t, pt, jt⟩ := ha
  obtain ⟨t2, pt2, jt2⟩ := he
  refine ⟨_, pe_mtT PySem.F.slot_tuple_index PySem.F.type_tuple_index mt_tup_index pt pt2 hb hl hn hlen, fun HF H0 H al S r s Q R L h => ?_⟩
  simp only [evalE] at h
  refine jt _ _ _ _ _ _ _ _ R L (h.bind fun u S1 v H1 H01 al1 e1 R1 u1 h1 => ?_)
  split at h1
  · rename_i hc
    obtain ⟨ds, hd, hs⟩ := recv_indexT hc
    obtain ⟨b, vs, rfl, k2, k3⟩ := rd_of R1 u1 hd
    refine ⟨⟨b, rfl, noD_same R1.fz (k2.nd hs)⟩, ?_⟩
    refine jt2 _ _ _ _ _ _ _ _ R1 (L.ext e1) (h1.bind fun us S2 ws H2 H02 al2 e2 R2 us2 h2 => ?_)
    unfold mthU at h2
    split at h2
    · rename_i y ys q1 q2
      split at h2
      · rename_i z q3
        exact indexT_ok W _ _ _ _ _ _ _ _ _ _ _ _ R2 (rd_of R2 (UP.mono e2.sub e2.pre _ _ u1) q1) (rds_of R2 us2 q2) q3 h2
      · exact h2.elim
    · exact h2.elim
  · exact h1.elim
end
end PD
/-! Part Y: texts: split, join, int(text), a text walked sign by sign. -/
namespace PD
open PySem PySem.Spec PyProof.Rows L2
section
variable {X : Cx} {ex : ExK} {W : WX}
theorem int_ok : Blt.ok X ex (.type "int") .int := by
  refine ⟨_, call_int_str, fun W HF H0 H al S s Q xs z vs R hx e h => ?_⟩
  match xs, e with
  | [.str a], e =>
    simp only [Blt.sem] at e
    split at e
    · rename_i hz
      obtain ⟨n, q, rfl⟩ := Option.map_eq_some_iff.mp e
      obtain ⟨v, rfl, rfl⟩ := hx.one
      exact ⟨a, n, rfl, q, hz, h.now R rfl⟩
    · cases e
theorem split_ok : Mth.ok X ex "str" "str.split" .split := by
  refine ⟨_, mt_split, fun W HF H0 H al S s Q x z xs v vs R hx hxs e h => ?_⟩
  match x, xs, e with
  | .str a, [.str b], e =>
    simp only [Mth.sem] at e
    split at e
    · rename_i hz
      cases e
      obtain ⟨w, rfl, hw⟩ := hxs.one
      cases hx; cases hw
      exact ⟨a, b, rfl, rfl, hz.1, hz.2, fun p hp => h.newL R hp (DPs.strs _)⟩
    · cases e
theorem join_ok : Mth.ok X ex "str" "str.join" .join := by
  refine ⟨_, mt_join, fun W HF H0 H al S s Q x z xs v vs R hx hxs e h => ?_⟩
  match x, xs, e with
  | .str a, [.list ds], e =>
    obtain ⟨ys, q, e⟩ := Option.bind_eq_some_iff.mp e
    split at e
    · rename_i hz
      cases e
      obtain ⟨w, rfl, l, ws, rfl, h2, h3⟩ := hxs.one
      cases hx
      obtain ⟨rfl, _⟩ := h3.of_strs q
      exact ⟨a, l, ys, rfl, rfl, .inl h2, hz, h.now R rfl⟩
    · cases e
  | .str a, [.tuple ds], e =>
    obtain ⟨ys, q, e⟩ := Option.bind_eq_some_iff.mp e
    split at e
    · rename_i hz
      cases e
      obtain ⟨w, rfl, l, ws, rfl, h2, h3⟩ := hxs.one
      cases hx
      obtain ⟨rfl, _⟩ := h3.of_strs q
      exact ⟨a, l, ys, rfl, rfl, .inr (sqT_same R.fz h2.sq), hz, h.now R rfl⟩
    · cases e
/-- o.m(e), o a text -/
theorem de_mthS {m : Mth} {a : P} {ps : Ps} {id : String} {nm : Str} {x e : Expr} {es : List Expr} {apos pos : Pos} (hm : Mth.ok X ex "str" id m) (slot : Slot "str" nm id) (hty : typeOf (.builtin id) = pure (.type "method_descriptor")) (hb : baseOk x = true) (hl : (apos.endLine == pos.line) = true) (hn : (e :: es).all ns = true)
    (hlen : (e :: es).length < 30) (hrc : ∀ S u, recvU m S u = true → ∃ z, rd S u = some (.str z)) (ha : DE X ex W a x) (he : DA X ex W ps (e :: es)) : DE X ex W (.mth m a ps) (.Call (.Attribute x nm apos) (e :: es) [] pos) := by
  obtain ⟨t, pt, jt⟩ := ha
  obtain ⟨t2, pt2, jt2⟩ := he
  obtain ⟨rr, hr, ho⟩ := hm
  have hn2 := hn
  simp only [List.all_cons, Bool.and_eq_true] at hn2
  refine ⟨_, pe_bm PySem.F.plainAttrs_str slot hty hr pt pt2 (base_ok hb) (few_ok hn hlen) hl (star_cons hn2.1) (star_any hn2.2), fun HF H0 H al S r s Q R L h => ?_⟩
  simp only [evalE] at h
  refine jt _ _ _ _ _ _ _ _ R L (h.bind fun u S1 v H1 H01 al1 e1 R1 u1 h1 => ?_)
  split at h1
  · rename_i hc
    obtain ⟨z, hd⟩ := hrc _ _ hc
    cases rd_of R1 u1 hd
    refine ⟨rfl, ?_⟩
    refine jt2 _ _ _ _ _ _ _ _ R1 (L.ext e1) (h1.bind fun us S2 ws H2 H02 al2 e2 R2 us2 h2 => ?_)
    unfold mthU at h2
    split at h2
    · rename_i y ys q1 q2
      split at h2
      · rename_i z q3
        exact ho W _ _ _ _ _ _ _ _ _ _ _ _ R2 (rd_of R2 (UP.mono e2.sub e2.pre _ _ u1) q1) (rds_of R2 us2 q2) q3 h2
      · exact h2.elim
    · exact h2.elim
  · exact h1.elim
theorem recv_str {m : Mth} (hm : m = .join ∨ m = .split) {S : Store} {u : U} (h : recvU m S u = true) : ∃ z, rd S u = some (.str z) := by
  cases q : rd S u with
  | none => rcases hm with rfl | rfl <;> simp [recvU, q] at h
  | some y => rcases hm with rfl | rfl <;> cases y <;> simp [recvU, q] at h ⊢
/-! ### signs -/
theorem yl_str {K : PySem.W.Frag} {H0 : Hp} {al : List Addr} {z : Str} : Yl K ex H0 al (Its z) (signsU z) none := by
  intro i HF H0' H' al' S' s0 pre R _
  have hl : (signsU z).length = z.cps.size := by simp [signsU]
  rw [hl]
  refine ⟨fun h => h, fun h => h, fun u x H'' e y => ?_⟩
  obtain ⟨rfl, c, hc, rfl⟩ := y
  unfold signsU at e
  rw [List.getElem?_map] at e
  obtain ⟨c', e1, rfl⟩ := Option.map_eq_some_iff.mp e
  rw [Array.getElem?_toList, hc] at e1
  cases e1
  exact ⟨H0', R, Xt.refl, rfl⟩
theorem di_exs {a : P} {e tg : Expr} (ha : DE X ex W a e) : DI X ex W (.exs a) tg e := by
  obtain ⟨t, pt, jt⟩ := ha
  refine ⟨_, pi_str pt, fun HF H0 H al S r s Q R L h => ?_⟩
  simp only [evalI] at h
  refine jt _ _ _ _ _ _ _ _ R L (h.bind fun u S1 v H1 H01 al1 e1 R1 u1 h1 => ?_)
  split at h1
  · rename_i z
    cases u1
    exact ⟨z, rfl, h1.now R1 yl_str⟩
  · exact h1.elim
end
end PD
/-! Part Z: objects of own classes; defs that work on the caller's store. -/
namespace PD
open PySem PySem.Spec PyProof.Rows L2

abbrev E0x : ExK := fun _ _ => False
def spS (K : PySem.W.Frag) (n : Nat) (m : List U → Store → Res U) : Sp := fun vs H Q E => vs.length = n ∧ ∃ us HF H0 al S, Rl K E0x HF H0 H al S ∧ UPs K E0x H0 al us vs ∧ Post K E0x (fun cls d _ H' => E cls d H') HF H0 al [] (UP K E0x) (m us S) Q
section
variable {K : PySem.W.Frag} {ex : ExK} {HF H0 H : Hp} {al : List Addr} {S : Store}
theorem Post.at_ {α β : Type} {W W' : WX} {s s' : L2.St} {rel : Hp → List Addr → α → β → Prop} {r : Res α} {Q : β → Hp → Prop} (hw : ∀ cls d H', W cls d s H' → W' cls d s' H') (h : Post K ex W HF H0 al s rel r Q) : Post K ex W' HF H0 al s' rel r Q := by
  cases r with
  | ok a S' => exact h
  | exc c S' => exact fun H' H0' al' e2 R2 => hw _ _ _ (h H' H0' al' e2 R2)
  | bad => exact h
/-! ### fields -/
theorem keys_none {α β : Type} {m : Str} : ∀ {fs : List (Str × α)} {gs : List (Str × β)}, fs.map (·.1) = gs.map (·.1) → gs.lookup m = none → fs.lookup m = none
  | [], _, _, _ => rfl
  | (x, a) :: fs, [], e, _ => by simp at e
  | (x, a) :: fs, (y, b) :: gs, e, h => by
    simp only [List.map_cons, List.cons.injEq] at e
    obtain ⟨rfl, e⟩ := e
    rw [List.lookup_cons] at h ⊢
    cases q : m == x with
    | true => rw [q] at h; cases h
    | false => rw [q] at h; exact keys_none e h
theorem look_ups {m : Str} {u : U} : ∀ {fs : List (Str × U)} {ws : List (Str × V)}, ws.map (·.1) = fs.map (·.1) → UPs K ex H0 al (fs.map (·.2)) (ws.map (·.2)) → fs.lookup m = some u → ∃ v, ws.lookup m = some v ∧ UP K ex H0 al u v
  | [], _, _, _, h => by simp at h
  | (x, a) :: fs, [], e, _, _ => by simp at e
  | (x, a) :: fs, (y, b) :: ws, e, k, h => by
    simp only [List.map_cons, List.cons.injEq] at e
    obtain ⟨rfl, e⟩ := e
    obtain ⟨v, r, k1, k2, k3⟩ := k
    simp only [List.map_cons, List.cons.injEq] at k1
    obtain ⟨rfl, rfl⟩ := k1
    rw [List.lookup_cons] at h ⊢
    cases q : m == y with
    | true =>
      rw [q] at h
      cases h
      exact ⟨b, rfl, k2⟩
    | false => rw [q] at h; exact look_ups e k3 h
theorem put_keys {f : Str} {u : U} {v : V} : ∀ {fs : List (Str × U)} {ws : List (Str × V)}, ws.map (·.1) = fs.map (·.1) → (putF f v ws).map (·.1) = (putU f u fs).map (·.1)
  | [], [], _ => rfl
  | [], _ :: _, e => by simp at e
  | _ :: _, [], e => by simp at e
  | (x, a) :: fs, (y, b) :: ws, e => by
    simp only [List.map_cons, List.cons.injEq] at e
    obtain ⟨rfl, e⟩ := e
    simp only [putF, putU]
    split
    · simp [e]
    · simp [put_keys (f := f) (u := u) (v := v) e]
theorem put_ups {f : Str} {u : U} {v : V} (hu : UP K ex H0 al u v) : ∀ {fs : List (Str × U)} {ws : List (Str × V)}, ws.map (·.1) = fs.map (·.1) → UPs K ex H0 al (fs.map (·.2)) (ws.map (·.2)) → UPs K ex H0 al ((putU f u fs).map (·.2)) ((putF f v ws).map (·.2))
  | [], [], _, _ => ⟨v, [], rfl, hu, rfl⟩
  | [], _ :: _, e, _ => by simp at e
  | _ :: _, [], e, _ => by simp at e
  | (x, a) :: fs, (y, b) :: ws, e, k => by
    simp only [List.map_cons, List.cons.injEq] at e
    obtain ⟨rfl, e⟩ := e
    obtain ⟨w, r, k1, k2, k3⟩ := k
    simp only [List.map_cons, List.cons.injEq] at k1
    obtain ⟨rfl, rfl⟩ := k1
    simp only [putF, putU]
    split
    · exact ⟨v, _, rfl, hu, k3⟩
    · exact ⟨b, _, rfl, k2, put_ups hu e k3⟩
/-- an instance as the machine has it -/
theorem ins_of (R : Rl K ex HF H0 H al S) {C : Str} {u : U} {v : V} {n : Nat} {fs : List (Str × U)} (hu : UP K ex H0 al u v) (q : insAt C S u = some (n, fs)) : ∃ a dx ws, v = .ref a ∧ u = .loc n ∧ al[n]? = some a ∧ S[n]? = some (.ins C fs) ∧ HF a = none ∧ H0 a = none ∧ H a = some (.ins (He.ga K C) dx ws) ∧
    ws.map (·.1) = fs.map (·.1) ∧ UPs K ex H0 al (fs.map (·.2)) (ws.map (·.2)) ∧ HF dx = none ∧ H0 dx = none ∧ H dx = some (.own a) ∧ dx ∉ al := by
  cases u with
  | loc m =>
    obtain ⟨a, h1, rfl⟩ := hu
    simp only [insAt] at q
    split at q
    · rename_i c gs hS
      split at q
      · rename_i hc
        cases q
        subst hc
        obtain ⟨k1, k2, dx, ws, k3, k4, k5, k6, k7, k8, k9⟩ := R.at_ _ a _ h1 hS
        exact ⟨a, dx, ws, rfl, rfl, h1, hS, k1, k2, k3, k4, k5, k6, k7, k8, k9⟩
      · cases q
    · cases q
  | _ => cases q
theorem lst_of (R : Rl K ex HF H0 H al S) {u : U} {v : V} {n : Nat} {ds : List PyData} (hu : UP K ex H0 al u v) (q : lstAt S u = some (n, ds)) : ∃ a vs, v = .ref a ∧ u = .loc n ∧ al[n]? = some a ∧ S[n]? = some (.lst ds) ∧ H a = some (.lst vs) ∧ DPs K H0 ds vs := by
  cases u with
  | loc m =>
    obtain ⟨a, h1, rfl⟩ := hu
    simp only [lstAt] at q
    split at q
    · rename_i gs hS
      cases q
      obtain ⟨k1, k2, vs, k3, k4⟩ := R.at_ _ a _ h1 hS
      exact ⟨a, vs, rfl, rfl, h1, hS, k3, k4⟩
    · cases q
  | _ => cases q
/-- a field is stored -/
theorem Rl.putF_ (R : Rl K ex HF H0 H al S) {C : Str} {n : Nat} {a dx : Addr} {fs : List (Str × U)} {ws : List (Str × V)} {f : Str} {u : U} {v : V} (h1 : al[n]? = some a) (h2 : S[n]? = some (.ins C fs)) (q1 : HF a = none) (q2 : H0 a = none) (q3 : H a = some (.ins (He.ga K C) dx ws)) (q4 : ws.map (·.1) = fs.map (·.1))
    (q5 : UPs K ex H0 al (fs.map (·.2)) (ws.map (·.2))) (q6 : HF dx = none) (q7 : H0 dx = none) (q8 : H dx = some (.own a)) (q9 : dx ∉ al) (hu : UP K ex H0 al u v) :
    Rl K ex HF H0 (upd H a (.ins (He.ga K C) dx (putF f v ws))) al (S.set n (.ins C (putU f u fs))) := by
  have hne : dx ≠ a := fun z => q9 (z ▸ List.mem_of_getElem? h1)
  exact R.putC ⟨q3, (fun _ z => nomatch z), (fun _ z => nomatch z)⟩ h1 h2 q1 q2 ⟨q1, q2, dx, _, upd_same, put_keys q4, put_ups hu q4 q5, q6, q7, by rw [upd_ne hne]; exact q8, q9⟩
end

/-! ### what is known of the defs -/
def GoodS (X : Cx) (k : Nat) (fs : FS) : Prop := ∃ f fd, X.mg fs.name = some (.ref f) ∧ PySem.W.keepIn X.K (.ref f) = true ∧ Binds X.K fd fs.ps [] ∧ FnOk X.prog X.w X.K X.mg X.base (L2.CX X.prog X.w) k f fd fs.ps (spS X.K fs.ps.length fs.m)
def GoodM (X : Cx) (k : Nat) (C : Str) (fs : FS) : Prop := Cls X.K (He.ga X.K C) ∧ ∃ f fd, Meth X.K (He.ga X.K C) fs.name f ∧ Binds X.K fd fs.ps [] ∧ FnOk X.prog X.w X.K X.mg X.base (L2.CX X.prog X.w) k f fd fs.ps (spS X.K fs.ps.length fs.m)
def GoodI (X : Cx) (k : Nat) (C : Str) (fs : FS) : Prop := X.mg C = some (.ref (He.ga X.K C)) ∧ ∃ f fd, Mk X.K (He.ga X.K C) f ∧ Binds X.K fd fs.ps [] ∧ FnOk X.prog X.w X.K X.mg X.base (L2.CX X.prog X.w) k f fd fs.ps (spS X.K fs.ps.length fs.m)
section
variable {X : Cx} {ex : ExK} {W : WX}
theorem callS_ok (hex : ex = E0x) {fs : FS} {HF H0 H : Hp} {al : List Addr} {S : Store} {s : L2.St} {Q : VK} {us : List U} {vs : List V} (R : Rl X.K ex HF H0 H al S) (hu : UPs X.K ex H0 al us vs) (h : Post X.K ex W HF H0 al s (UP X.K ex) (callS fs us S) Q) :
    spS X.K fs.ps.length fs.m vs H Q (fun cls d H' => W cls d s H') := by
  subst hex
  unfold callS at h
  split at h
  · rename_i hc
    exact ⟨by rw [← hu.length]; exact eq_of_beq hc, us, HF, H0, al, S, R, hu, h.at_ fun _ _ _ z => z⟩
  · exact h.elim
theorem de_calls (hex : ex = E0x) {k : Nat} {fs : FS} {ps : Ps} {e : Expr} {es : List Expr} {p pos : Pos} (G : GoodS X k fs) (hr : Room k X.A) (hg : Gl X fs.name) (hdb : (fs.name == ("__debug__" : Str)) = false) (tk : Takes X W) (hn : (e :: es).all ns = true) (ha : DA X ex W ps (e :: es)) :
    DE X ex W (.calls fs ps) (.Call (.Name fs.name p) (e :: es) [] pos) := by
  obtain ⟨f, fd, hm, hk, hb, F⟩ := G
  obtain ⟨t, pt, jt⟩ := ha
  simp only [List.all_cons, Bool.and_eq_true] at hn
  refine ⟨_, pe_callS (E := fun s cls d H => W cls d s H) F hr hg hm hk hb (fun s => passAt tk s) pt hdb (star_cons hn.1) (star_any hn.2), fun HF H0 H al S r s Q R L h => ?_⟩
  simp only [evalE] at h
  refine jt _ _ _ _ _ _ _ _ R L (h.bind fun us S1 vs H1 H01 al1 e1 R1 u1 h1 => ?_)
  exact callS_ok hex R1 u1 h1

/-! ### methods -/
theorem wp_meth {prog : Program} {w : World} {A : Around} {E : Value → Shared → Prop} {s : Shared} {env : Env} {o : Expr} {m : Str} {apos pos : Pos} {args : List Expr} {Q : Value → Shared → Prop} (hb : baseOk o = true)
    (hf : methodCallForm (args.length + ([] : List Keyword).length) (backTo pos (starEach args env)) (backToKw pos (keywordEach [] env)) = true) (hl : (apos.endLine == pos.line) = true)
    (h : wpAny (model prog w) A (eval o env) (fun ov s1 => ∀ pl, wpAny (model prog w) A (getMethod ov m pl) (fun fx s2 => wpAny (model prog w) A (callWith pos fx.1 fx.2 (backTo pos (starEach args env)) (backToKw pos (keywordEach [] env))) Q E s2) E s1) E s) :
    wpAny (model prog w) A (eval (.Call (.Attribute o m apos) args [] pos) env) Q E s := by
  rw [arm_eval_Call, base_ok hb]
  refine wpAny_bind (wpAny_mono h (fun ov s1 h1 => wpAny_bind (wpAny_standAt ?_)) fun _ _ e => e)
  unfold methodCall
  rw [hf]
  refine wpAny_bind (wpAny_holding ?_)
  show wpAny _ _ (getMethod ov m _) _ _ _
  refine wpAny_mono (h1 _) (fun fx s2 h2 => ?_) fun _ _ e => e
  have hp : methodCallPos true o env apos pos = pure pos := by unfold methodCallPos; simp [hl]
  exact wpAny_bind (wpAny_of_eq hp h2)
def tMethS (C : Addr) (m : Str) (sp : Sp) (E : L2.St → XK) (ta : TE) (t : TA) : TE := fun σ H Q => ta σ H fun x H1 => ∃ a dx fs, x = .ref a ∧ H1 a = some (.ins C dx fs) ∧ fs.lookup m = none ∧ t σ H1 fun vs H2 => sp (x :: vs) H2 Q (E σ)
theorem pe_methS {k : Nat} {C f : Addr} {fd : FuncData} {ps : List Str} {sp : Sp} {E : L2.St → XK} {m : Str} {pos apos : Pos} {e o : Expr} {es : List Expr} {ta : TE} {t : TA} (he : PE X o ta) (c : Cls X.K C) (hm : Meth X.K C m f) (F : FnOk X.prog X.w X.K X.mg X.base (L2.CX X.prog X.w) k f fd ps sp) (hr : Room k X.A) (hb : Binds X.K fd ps [])
    (hx : ∀ σ, PassesAt (L2.CX X.prog X.w) X σ (E σ)) (ha : PA X (e :: es) t) (hbo : baseOk o = true) (hl : (apos.endLine == pos.line) = true) (hn : (e :: es).all ns = true) (hlen : (e :: es).length < 30) : PE X (.Call (.Attribute o m apos) (e :: es) [] pos) (tMethS C m sp E ta t) := by
  have hn2 := hn
  simp only [List.all_cons, Bool.and_eq_true] at hn2
  refine ⟨fun pins s σ H Q I h => wp_meth hbo (few_ok hn hlen) hl (thn (he.run pins s σ H _ I h) fun u0 s1 ⟨x, H1, J, rx, a, dx, fs, hx0, ea, l, q⟩ pl => ?_)⟩
  subst hx0
  cases (show u0 = Value.ref a from rx)
  refine getmeth_ok J ea c hm l (PySem.W.callWith_K (first := [.ref a]) (h₀ := X.base) I.ok.mod.kin hm.kp (thn (ha.run pos pins s1 σ H1 _ J q) fun us s2 ⟨vs, H2, J2, r, q2⟩ => ⟨J2.kIn, ?_⟩) (star_cons hn2.1) (star_any hn2.2))
  exact run_fnS (us := .ref a :: us) (vs := .ref a :: vs) F hr hb (hx σ) J2 (.cons rfl r) q2
theorem pe_methS0 {k : Nat} {C f : Addr} {fd : FuncData} {ps : List Str} {sp : Sp} {E : L2.St → XK} {m : Str} {pos apos : Pos} {o : Expr} {ta : TE} (he : PE X o ta) (c : Cls X.K C) (hm : Meth X.K C m f) (F : FnOk X.prog X.w X.K X.mg X.base (L2.CX X.prog X.w) k f fd ps sp) (hr : Room k X.A) (hb : Binds X.K fd ps [])
    (hx : ∀ σ, PassesAt (L2.CX X.prog X.w) X σ (E σ)) (hbo : baseOk o = true) (hl : (apos.endLine == pos.line) = true) : PE X (.Call (.Attribute o m apos) [] [] pos) (tMethS C m sp E ta tNil) := by
  refine ⟨fun pins s σ H Q I h => wp_meth hbo rfl hl (thn (he.run pins s σ H _ I h) fun u0 s1 ⟨x, H1, J, rx, a, dx, fs, hx0, ea, l, q⟩ pl => ?_)⟩
  subst hx0
  cases (show u0 = Value.ref a from rx)
  exact getmeth_ok J ea c hm l (PySem.W.callWith_K0 (first := [.ref a]) J.kIn hm.kp (run_fnS (us := [.ref a]) (vs := [.ref a]) F hr hb (hx σ) J (.cons rfl .nil) q))
theorem meth_at {K : PySem.W.Frag} {HF H0 H : Hp} {al : List Addr} {S : Store} {C m : Str} {u : U} {v : V} (R : Rl K ex HF H0 H al S) (hu : UP K ex H0 al u v) (h : methAt C m S u = true) : ∃ a dx ws, v = .ref a ∧ H a = some (.ins (He.ga K C) dx ws) ∧ ws.lookup m = none := by
  unfold methAt at h
  split at h
  · rename_i n fs q
    obtain ⟨a, dx, ws, rfl, _, _, _, _, _, k3, k4, _⟩ := ins_of R hu q
    exact ⟨a, dx, ws, rfl, k3, keys_none k4 (Option.isNone_iff_eq_none.mp h)⟩
  · cases h
theorem de_mcall (hex : ex = E0x) {k : Nat} {C : Str} {fs : FS} {a : P} {ps : Ps} {o e : Expr} {es : List Expr} {apos pos : Pos} (G : GoodM X k C fs) (hr : Room k X.A) (tk : Takes X W) (hbo : baseOk o = true) (hl : (apos.endLine == pos.line) = true) (hn : (e :: es).all ns = true) (hlen : (e :: es).length < 30) (ho : DE X ex W a o) (ha : DA X ex W ps (e :: es)) :
    DE X ex W (.mcall C fs a ps) (.Call (.Attribute o fs.name apos) (e :: es) [] pos) := by
  obtain ⟨c, f, fd, hm, hb, F⟩ := G
  obtain ⟨to, po, jo⟩ := ho
  obtain ⟨t, pt, jt⟩ := ha
  refine ⟨_, pe_methS (E := fun s cls d H => W cls d s H) po c hm F hr hb (fun s => passAt tk s) pt hbo hl hn hlen, fun HF H0 H al S r s Q R L h => ?_⟩
  simp only [evalE] at h
  refine jo _ _ _ _ _ _ _ _ R L (h.bind fun u S1 v H1 H01 al1 e1 R1 u1 h1 => ?_)
  split at h1
  · rename_i hc
    obtain ⟨b, dx, ws, rfl, k1, k2⟩ := meth_at R1 u1 hc
    refine ⟨b, dx, ws, rfl, k1, k2, jt _ _ _ _ _ _ _ _ R1 (L.ext e1) (h1.bind fun us S2 vs H2 H02 al2 e2 R2 u2 h2 => ?_)⟩
    exact callS_ok hex R2 (us := u :: us) ⟨_, vs, rfl, UP.mono e2.sub e2.pre _ _ u1, u2⟩ h2
  · exact h1.elim
theorem de_mcall0 (hex : ex = E0x) {k : Nat} {C : Str} {fs : FS} {a : P} {o : Expr} {apos pos : Pos} (G : GoodM X k C fs) (hr : Room k X.A) (tk : Takes X W) (hbo : baseOk o = true) (hl : (apos.endLine == pos.line) = true) (ho : DE X ex W a o) :
    DE X ex W (.mcall C fs a .nil) (.Call (.Attribute o fs.name apos) [] [] pos) := by
  obtain ⟨c, f, fd, hm, hb, F⟩ := G
  obtain ⟨to, po, jo⟩ := ho
  refine ⟨_, pe_methS0 (E := fun s cls d H => W cls d s H) po c hm F hr hb (fun s => passAt tk s) hbo hl, fun HF H0 H al S r s Q R L h => ?_⟩
  simp only [evalE] at h
  refine jo _ _ _ _ _ _ _ _ R L (h.bind fun u S1 v H1 H01 al1 e1 R1 u1 h1 => ?_)
  split at h1
  · rename_i hc
    obtain ⟨b, dx, ws, rfl, k1, k2⟩ := meth_at R1 u1 hc
    exact ⟨b, dx, ws, rfl, k1, k2, callS_ok hex R1 (us := [u]) ⟨_, [], rfl, u1, rfl⟩ (by simpa only [evalEs, Res.ok_bind] using h1)⟩
  · exact h1.elim

/-! ### new objects -/
def tMakeS (C : Addr) (sp : Sp) (E : L2.St → XK) (t : TA) : TE := fun σ H Q => t σ H fun vs H1 => ∀ x dx, H1 x = none → H1 dx = none → dx ≠ x → sp (.ref x :: vs) (upd (upd H1 dx (.own x)) x (.ins C dx [])) (fun v H2 => v = .non ∧ Q (.ref x) H2) (E σ)
theorem pe_makeS {k : Nat} {C f : Addr} {fd : FuncData} {ps : List Str} {sp : Sp} {E : L2.St → XK} {y : Str} {p pos : Pos} {e : Expr} {es : List Expr} {t : TA} (M : Mk X.K C f) (F : FnOk X.prog X.w X.K X.mg X.base (L2.CX X.prog X.w) k f fd ps sp) (hr : Room (k + 1) X.A) (hg : Gl X y) (hm : X.mg y = some (.ref C)) (hb : Binds X.K fd ps [])
    (hx : ∀ σ, PassesAt (L2.CX X.prog X.w) X σ (E σ)) (ha : PA X (e :: es) t) (hdb : (y == ("__debug__" : Str)) = false) (hn : (e :: es).all ns = true) : PE X (.Call (.Name y p) (e :: es) [] pos) (tMakeS C sp E t) := by
  simp only [List.all_cons, Bool.and_eq_true] at hn
  refine ⟨fun pins s σ H Q I h => wpAny_Call_Name_kw (ld_glob I hg hm (PySem.W.callWith_K (h₀ := X.base) I.ok.mod.kin M.kp (thn (ha.run pos pins s σ H _ I h) fun us s1 ⟨vs, H1, J, r, q⟩ => ⟨J.kIn, ?_⟩) (star_cons hn.1) (star_any hn.2)) hdb)⟩
  have n0 : s1.heap.objs.size ≠ s1.heap.objs.size + 1 := Nat.ne_of_lt (Nat.lt_succ_self _)
  have hq := q (s1.heap.objs.size + 1) s1.heap.objs.size (J.hok.fresh (Nat.le_succ _)) (J.hok.fresh (Nat.le_refl _)) n0
  have J2 := Inv.made (C := C) J
  have rv : Vals (V.ref (s1.heap.objs.size + 1) :: vs) (Value.ref (s1.heap.objs.size + 1) :: us) := .cons rfl r
  have hl : (Value.ref (s1.heap.objs.size + 1) :: us).length = ps.length := by rw [← rv.length]; exact F.len _ _ _ _ hq
  have bb := hb _ (Value.ref (s1.heap.objs.size + 1) :: us) J2.kIn (by rw [List.append_nil]; exact hl)
  rw [List.append_nil] at bb
  refine wpAny_call (make_map (f := f) J.kIn M.makes M.init (beq_iff_eq.mp M.fn) (codeAny_mono (F.run _ X.stack _ _ ⟨Value.ref (s1.heap.objs.size + 1) :: us, []⟩ _ _ _ (E σ) (hr.make C us []) (J2.env0.make C us []) bb rv hq) fun rs s' z => ?_))
  cases rs with
  | error er => exact hx σ pins _ _ er s' J2 z
  | ok fl =>
    cases fl with
    | ret u =>
      obtain ⟨v, H', J3, rw_, ev, q3⟩ := J2.after z
      subst ev
      exact ⟨rw_, V.ref (s1.heap.objs.size + 1), H', J3, rfl, q3⟩
    | next => exact z.elim
    | brk => exact z.elim
    | cont => exact z.elim
theorem Rl.made {K : PySem.W.Frag} {HF H0 H : Hp} {al : List Addr} {S : Store} (R : Rl K ex HF H0 H al S) {C : Str} {x dx : Addr} (hx : H x = none) (hd : H dx = none) (hne : dx ≠ x) : Rl K ex HF H0 (upd (upd H dx (.own x)) x (.ins (He.ga K C) dx [])) (al ++ [x]) (S ++ [.ins C []]) ∧ Xt HF H0 H0 al (al ++ [x]) := by
  obtain ⟨R1, e1⟩ := R.grow (H' := upd H dx (.own x)) (same_lay hd) (Same.refl _) (fun _ _ => rfl) (R.fz.trans (same_lay hd)) fun z => z
  have hx1 : upd H dx (.own x) x = none := by rw [upd_ne (Ne.symm hne)]; exact hx
  have hnd : dx ∉ al := fun z => R.old dx z hd
  obtain ⟨R2, e2⟩ := R1.pushC (p := x) (c0 := .ins C []) (o := .ins (He.ga K C) dx []) hx1 fun k1 k2 =>
    ⟨k1, k2, dx, [], upd_same, rfl, rfl, R.fr.free hd, R.fz.free hd, by rw [upd_ne hne, upd_same], by simp only [List.mem_append, List.mem_singleton, not_or]; exact ⟨hnd, hne⟩⟩
  exact ⟨R2, e2⟩
theorem de_make (hex : ex = E0x) {k j : Nat} {C : Str} {fs : FS} {ps : Ps} {e : Expr} {es : List Expr} {p pos : Pos} (G : GoodI X j C fs) (hj : j + 1 ≤ k) (hr : Room k X.A) (hg : Gl X C) (hdb : (C == ("__debug__" : Str)) = false) (tk : Takes X W) (hn : (e :: es).all ns = true) (ha : DA X ex W ps (e :: es)) :
    DE X ex W (.make C fs ps) (.Call (.Name C p) (e :: es) [] pos) := by
  obtain ⟨hm, f, fd, M, hb, F⟩ := G
  obtain ⟨t, pt, jt⟩ := ha
  refine ⟨_, pe_makeS (E := fun s cls d H => W cls d s H) M F (hr.mono hj) hg hm hb (fun s => passAt tk s) pt hdb hn, fun HF H0 H al S r s Q R L h => ?_⟩
  simp only [evalE] at h
  refine jt _ _ _ _ _ _ _ _ R L (h.bind fun us S1 vs H1 H01 al1 e1 R1 u1 h1 x dx hx hd hne => ?_)
  obtain ⟨R2, e2⟩ := R1.made (C := C) hx hd hne
  have hlen : al1.length = S1.length := R1.len
  have atx : (al1 ++ [x])[S1.length]? = some x := by rw [← hlen]; simp
  refine callS_ok (W := W) (s := s) hex R2 (us := .loc S1.length :: us) ⟨_, vs, rfl, ⟨x, atx, rfl⟩, UPs.mono e2.sub e2.pre _ _ u1⟩ ?_
  unfold makeU at h1
  cases q : callS fs (.loc S1.length :: us) (S1 ++ [.ins C []]) with
  | exc c S2 => rw [q] at h1; exact Post.shift e2 h1
  | bad => rw [q] at h1; exact h1.elim
  | ok u S2 =>
    rw [q] at h1
    cases u with
    | d y =>
      cases y with
      | none =>
        intro v H' H0' al' e3 R3 hv
        exact ⟨hv, h1 _ H' H0' al' (e2.trans e3) R3 ⟨x, pre_get e3.pre atx, rfl⟩⟩
      | _ => exact h1.elim
    | _ => exact h1.elim

/-! ### fields read and stored -/
def AtrOk (X : Cx) (C f : Str) : Prop := Cls X.K (He.ga X.K C) ∧ NoAttr X.K (He.ga X.K C) f
theorem de_attr {C f : Str} {a : P} {o : Expr} {pos : Pos} (G : AtrOk X C f) (hb : baseOk o = true) (ha : DE X ex W a o) : DE X ex W (.attr C a f) (.Attribute o f pos) := by
  obtain ⟨t, pt, jt⟩ := ha
  refine ⟨_, pe_fld pt (base_ok hb), fun HF H0 H al S r s Q R L h => ?_⟩
  simp only [evalE] at h
  refine jt _ _ _ _ _ _ _ _ R L (h.bind fun u S1 v H1 H01 al1 e1 R1 u1 h1 => ?_)
  unfold attrU at h1
  split at h1
  · rename_i n fs q
    split at h1
    · rename_i w qw
      obtain ⟨b, dx, ws, rfl, _, _, _, _, _, k3, k4, k5, _⟩ := ins_of R1 u1 q
      obtain ⟨v', k6, k7⟩ := look_ups k4 k5 qw
      exact ⟨b, _, dx, ws, v', rfl, k3, G.1, G.2, k6, h1.now R1 k7⟩
    · exact h1.elim
  · exact h1.elim
theorem sw_att {value o : Expr} {f : Str} {p : Pos} {ln : Nat} {env : Env} (h : nlc value = true) : swapsWith value (some (.Attribute o f p)) ln env = pure false := by
  cases value <;> first | rfl | cases h
theorem keys_len {fs : List (Str × U)} {ws : List (Str × V)} (e : ws.map (·.1) = fs.map (·.1)) : ws.length = fs.length := by
  have := congrArg List.length e
  simpa using this
theorem ds_setf {C f : Str} {a v : P} {o ev : Expr} {tp pos : Pos} (G : AtrOk X C f) (hn : nlc ev = true) (hv : DE X ex W v ev) (ha : DE X ex W a o) : DS X ex W (.setf C a f v) (.Assign [.Attribute o f tp] ev pos) := by
  obtain ⟨ta, pa, ja⟩ := ha
  obtain ⟨tv, pv, jv⟩ := hv
  refine ⟨_, ps_fld pa pv (sw_att hn), fun HF H0 H al S r s D R L h => ?_⟩
  simp only [evalS] at h
  have hp := PostS.ofE (rel := fun H0 al (p : U) (q : Unit) => True) (Q := fun q H' => D.nx s H') (g := fun p S1 => .next r S1) L h
    fun p S1 v H1 H01 al1 e1 R1 u1 h1 => h1 _ H1 H01 al1 Xt.refl R1 (L.ext e1)
  refine jv _ _ _ _ _ _ _ _ R L (hp.bind fun z S1 vz H1 H01 al1 e1 R1 u1 h1 => ?_)
  refine ja _ _ _ _ _ _ _ _ R1 (L.ext e1) (h1.bind fun u S2 v2 H2 H02 al2 e2 R2 u2 h2 => ?_)
  unfold setfU at h2
  split at h2
  · rename_i n fs q
    split at h2
    · rename_i hz
      obtain ⟨b, dx, ws, rfl, _, k1, k2, k3, k4, k5, k6, k7, k8, k9, k10, k11⟩ := ins_of R2 u2 q
      refine ⟨b, _, dx, ws, rfl, k5, G.1, G.2, by rw [keys_len k6]; exact hz, ?_⟩
      exact h2 () _ _ _ Xt.refl (R2.putF_ k1 k2 k3 k4 k5 k6 k7 k8 k9 k10 k11 (UP.mono e2.sub e2.pre _ _ u1)) trivial
    · exact h2.elim
  · exact h2.elim
/-- a field as a target -/
def gFld (K : PySem.W.Frag) (to : TE) (f : Str) : TG := fun v σ H Q => to σ H fun x H1 => ∃ a C dx fs, x = .ref a ∧ H1 a = some (.ins C dx fs) ∧ Cls K C ∧ NoAttr K C f ∧ fs.length < 1000 ∧ Q σ (upd H1 a (.ins C dx (putF f v fs)))
theorem pg_fld {o : Expr} {f : Str} {to : TE} {pos : Pos} (ho : PE X o to) : PG X (.Attribute o f pos) (gFld X.K to f) := by
  refine ⟨fun pins s σ H v u Q I r h => ?_⟩
  show wpAny _ _ (do
    let ov ← holding [u] (eval o X.env)
    standAt pos.atName
    holding [u, ov] (setAttr ov f u)
    release [u, ov] []) _ _ s
  refine wpAny_bind (wpAny_holding (thn (ho.run pins s σ H _ I h) fun ov s1 ⟨x, H1, J, rx, a, C, dx, fs, hx0, ea, c, n, l, q⟩ => ?_))
  subst hx0
  cases (show ov = Value.ref a from rx)
  exact wpAny_bind (wpAny_standAt (wpAny_bind (wpAny_holding (setattr_ok J ea c n l r fun s2 J2 => wpAny_release ⟨σ, _, J2, q⟩))))
theorem sw2_att {o1 o2 : Expr} {f g : Str} {p1 p2 pt pe : Pos} {kt ke : Nat} {x y : Expr} {env : Env} : swappedStores [.Tuple [.Attribute o1 f p1, .Attribute o2 g p2] kt pt] (.Tuple [x, y] ke pe) env = pure none := by
  unfold swappedStores
  simp only [List.filterMap_cons, List.filterMap_nil, List.length_cons, List.length_nil]
  split
  · rfl
  · split
    · rfl
    · rfl
theorem setf_ok {C f : Str} {HF H0 H : Hp} {al : List Addr} {S : Store} {s : L2.St} {α β : Type} {rel : Hp → List Addr → α → β → Prop} {Q : β → Hp → Prop} {g : U → Store → Res α} {u z : U} {v vz : V} (R : Rl X.K ex HF H0 H al S) (hu : UP X.K ex H0 al u v) (hz : UP X.K ex H0 al z vz)
    (h : Post X.K ex W HF H0 al s rel ((setfU C u f z S).bind g) Q) : ∃ a dx ws S', v = .ref a ∧ H a = some (.ins (He.ga X.K C) dx ws) ∧ ws.length < 1000 ∧ Rl X.K ex HF H0 (upd H a (.ins (He.ga X.K C) dx (putF f vz ws))) al S' ∧ Post X.K ex W HF H0 al s rel (g (.d .none) S') Q := by
  unfold setfU at h
  split at h
  · rename_i n fs q
    split at h
    · rename_i hl
      obtain ⟨b, dx, ws, rfl, _, k1, k2, k3, k4, k5, k6, k7, k8, k9, k10, k11⟩ := ins_of R hu q
      exact ⟨b, dx, ws, _, rfl, k5, by rw [keys_len k6]; exact hl, R.putF_ k1 k2 k3 k4 k5 k6 k7 k8 k9 k10 k11 hz, h⟩
    · exact h.elim
  · exact h.elim
theorem ds_setf2 {C f g : Str} {a b x y : P} {o1 o2 e1 e2 : Expr} {p1 p2 pt pe pos : Pos} {kt ke : Nat} (hca : X.calm = true) (G1 : AtrOk X C f) (G2 : AtrOk X C g) (hn1 : ns e1 = true) (hn2 : ns e2 = true) (hx : DE X ex W x e1) (hy : DE X ex W y e2) (ha : DE X ex W a o1) (hb : DE X ex W b o2) :
    DS X ex W (.setf2 C a f b g x y) (.Assign [.Tuple [.Attribute o1 f p1, .Attribute o2 g p2] kt pt] (.Tuple [e1, e2] ke pe) pos) := by
  obtain ⟨tx, px, jx⟩ := hx
  obtain ⟨ty, py, jy⟩ := hy
  obtain ⟨ta, pa, ja⟩ := ha
  obtain ⟨tb, pb, jb⟩ := hb
  refine ⟨_, ps_asg (pe_tupF (pa_cons px (pa_cons py pa_nil (star_cons hn2)) (star_cons hn1))) (pg_tup hca (pgs_cons (pg_fld pa) (pgs_cons (pg_fld pb) pgs_nil))) rfl sw2_att, fun HF H0 H al S r s D R L h => ?_⟩
  simp only [evalS] at h
  have hp := PostS.ofE (rel := fun H0 al (p : U) (q : Unit) => True) (Q := fun q H' => D.nx s H') (g := fun p S1 => .next r S1) L h
    fun p S1 v H1 H01 al1 e1 R1 u1 h1 => h1 _ H1 H01 al1 Xt.refl R1 (L.ext e1)
  refine jx _ _ _ _ _ _ _ _ R L (hp.bind fun z S1 vz H1 H01 al1 x1 R1 u1 h1 => ?_)
  refine jy _ _ _ _ _ _ _ _ R1 (L.ext x1) (h1.bind fun w S2 vw H2 H02 al2 x2 R2 u2 h2 => ?_)
  refine ⟨by show 2 ≤ sizeLine; decide, fun p o hp0 hc hd => ?_⟩
  obtain ⟨R3, x3⟩ := R2.lay (o := .frz o (.tup [vz, vw])) hp0
  refine ⟨p, [vz, vw], rfl, .inl (.inr ⟨o, upd_same⟩), rfl, vz, [vw], rfl, ?_⟩
  have z3 := UP.mono (x2.trans x3).sub (x2.trans x3).pre _ _ u1
  have w3 := UP.mono x3.sub x3.pre _ _ u2
  refine ja _ _ _ _ _ _ _ _ R3 (((L.ext x1).ext x2).ext x3) ((Post.shift x3 h2).bind fun u S4 v4 H4 H04 al4 x4 R4 u4 h4 => ?_)
  obtain ⟨c1, dx, ws, S5, rfl, k1, k2, R5, h5⟩ := setf_ok R4 u4 (UP.mono x4.sub x4.pre _ _ z3) h4
  refine ⟨c1, _, dx, ws, rfl, k1, G1.1, G1.2, k2, vw, [], rfl, ?_⟩
  refine jb _ _ _ _ _ _ _ _ R5 ((((L.ext x1).ext x2).ext x3).ext x4) (h5.bind fun u' S6 v6 H6 H06 al6 x6 R6 u6 h6 => ?_)
  have h6' : Post X.K ex W HF H06 al6 s (fun H0 al (p : U) (q : Unit) => True) ((setfU C u' g w S6).bind fun y S => .ok y S) (fun q H' => D.nx s H') := by
    cases q : setfU C u' g w S6 <;> rw [q] at h6 <;> exact h6
  obtain ⟨c2, dx2, ws2, S7, rfl, k3, k4, R7, h7⟩ := setf_ok R6 u6 (UP.mono (x4.trans x6).sub (x4.trans x6).pre _ _ w3) h6'
  exact ⟨c2, _, dx2, ws2, rfl, k3, G2.1, G2.2, k4, rfl, h7 () _ _ _ Xt.refl R7 trivial⟩

/-! ### lists that are read from fields -/
theorem de_appE {a b : P} {o e : Expr} {apos pos : Pos} (hb : baseOk o = true) (hl : (apos.endLine == pos.line) = true) (hn : ns e = true) (ha : DE X ex W a o) (he : DE X ex W b e) : DE X ex W (.appE a b) (.Call (.Attribute o "append" apos) [e] [] pos) := by
  obtain ⟨ta, pa, ja⟩ := ha
  obtain ⟨tb, pb, jb⟩ := he
  have hns : [e].all ns = true := by simp [hn]
  refine ⟨_, pe_bm PySem.F.plainAttrs_list PySem.F.slot_list_append PySem.F.type_list_append mt_append pa (pa_cons pb pa_nil (star_cons hn)) (base_ok hb) (few_ok hns (by simp)) hl (star_cons hn) rfl, fun HF H0 H al S r s Q R L h => ?_⟩
  simp only [evalE] at h
  refine ja _ _ _ _ _ _ _ _ R L (h.bind fun u S1 v H1 H01 al1 e1 R1 u1 h1 => ?_)
  split at h1
  · rename_i hc
    obtain ⟨⟨n, ds⟩, hq⟩ := Option.isSome_iff_exists.mp hc
    obtain ⟨c, vs, rfl, _, k1, k2, k3, k4⟩ := lst_of R1 u1 hq
    refine ⟨.inl ⟨rfl, vs, SqL.of k3⟩, ?_⟩
    refine jb _ _ _ _ _ _ _ _ R1 (L.ext e1) (h1.bind fun w S2 vw H2 H02 al2 e2 R2 u2 h2 => ?_)
    unfold appEU at h2
    split at h2
    · rename_i n2 ds2 y q1 q2
      obtain ⟨c2, vs2, hc2, _, m1, m2, m3, m4⟩ := lst_of R2 (UP.mono e2.sub e2.pre _ _ u1) q1
      cases hc2
      have hy : DP X.K H02 y vw := by
        cases w <;> simp only [asD] at q2 <;> cases q2
        exact u2
      split at h2
      · rename_i hz
        refine ⟨c, vs2, vw, rfl, rfl, m3, by rw [← m4.length]; exact hz, ?_⟩
        exact h2 _ _ _ _ Xt.refl (R2.put m1 m2 (m4.append (DPs.one hy))) rfl
      · exact h2.elim
    · exact h2.elim
  · exact h1.elim
theorem de_popE {a : P} {o : Expr} {apos pos : Pos} (hb : baseOk o = true) (hl : (apos.endLine == pos.line) = true) (ha : DE X ex W a o) : DE X ex W (.popE a) (.Call (.Attribute o "pop" apos) [] [] pos) := by
  obtain ⟨ta, pa, ja⟩ := ha
  refine ⟨_, pe_bm0 PySem.F.plainAttrs_list PySem.F.slot_list_pop PySem.F.type_list_pop mt_pop pa (base_ok hb) hl, fun HF H0 H al S r s Q R L h => ?_⟩
  simp only [evalE] at h
  refine ja _ _ _ _ _ _ _ _ R L (h.bind fun u S1 v H1 H01 al1 e1 R1 u1 h1 => ?_)
  unfold popEU at h1
  split at h1
  · rename_i n ds q
    obtain ⟨c, vs, rfl, _, k1, k2, k3, k4⟩ := lst_of R1 u1 q
    refine ⟨.inl ⟨rfl, vs, SqL.of k3⟩, ?_⟩
    split at h1
    · rename_i y q3
      obtain ⟨w, m1, m2⟩ := k4.get q3
      refine ⟨c, vs, w, rfl, rfl, k3, by rw [← k4.length]; exact m1, ?_⟩
      exact h1 _ _ _ _ Xt.refl (R1.put k1 k2 k4.dropLast) m2
    · exact h1.elim
  · exact h1.elim

/-! ### len(x) by an own __len__ -/
theorem len_own {prog : Program} {w : World} {A : Around} {E : Value → Shared → Prop} {s : Shared} {K : PySem.W.Frag} {x C f : Addr} {ox : Obj} {od : Option Obj} {Q : Value → Shared → Prop} (KX : K.In s.heap) (I : PySem.W.InstAt s.heap x ox C od) (hs : PySem.W.findIn K (.ref C) "__len__" = some (some (.ref f))) (hf : PySem.W.isFn K (.ref f) = true)
    (h : wpAny (model prog w) A.in1 (call (.ref f) [.ref x]) (fun r s1 => ∃ (n : Int) (u : Tok), r = Value.int n u ∧ 0 ≤ n ∧ n < 1000000 ∧ ∀ t, Q (.int n t) { s1 with toks := s1.toks + 1 }) E s) : wpAny (model prog w) A (call (.builtin "len") [.ref x]) Q E s := by
  refine Calls.call_function_entry kind_len plain_len entry_len (args_len1 _) ?_
  unfold Builtin.«len»
  refine wpAny_bind (m := oneArg "len" _) (wpAny_pure ?_)
  refine wpAny_bind (m := callSpecial? (.ref x) (Str.ofString "__len__")) (PySem.W.special_fn KX I hs (beq_iff_eq.mp hf) (wpAny_mono h (fun r s1 z => ?_) fun _ _ z => z))
  obtain ⟨n, u, rfl, n0, n1, q⟩ := z
  refine wpAny_bind (wpAny_holding (wpAny_pure ?_))
  refine wpAny_bind (wpAny_letGo ?_)
  show wpAny _ _ (if n < 0 then _ else _) _ _ _
  rw [if_neg (by omega)]
  show wpAny _ _ (if n ≥ 2 ^ 63 then _ else _) _ _ _
  rw [if_neg (by omega)]
  exact wpAny_bind (wpAny_mkInt (wpAny_pure ⟨_, rfl, q _⟩))
/-- a def within a builtin; nothing is let out -/
theorem run_in1 {k : Nat} {f : Addr} {fd : FuncData} {ps : List Str} {sp : Sp} {pins : List (Addr × Obj)} {σ : L2.St} {H : Hp} {s : Shared} {Q : VK} {us : List Value} {vs : List V} {E : Value → Shared → Prop} (F : FnOk X.prog X.w X.K X.mg X.base (L2.CX X.prog X.w) k f fd ps sp) (hr : Room (k + 1) X.A) (hb : Binds X.K fd ps [])
    (I : Inv X pins σ H s) (r : Vals vs us) (h : sp vs H Q (fun _ _ _ => False)) : wpAny (model X.prog X.w) X.A.in1 (call (.ref f) us) (EP X pins σ Q) E s := by
  have hl : us.length = ps.length := by rw [← r.length]; exact F.len _ _ _ _ h
  have b := hb s us I.kIn (by rw [List.append_nil]; exact hl)
  rw [List.append_nil] at b
  refine wpAny_call (codeAny_mono (F.run X.A.in1 X.stack s H ⟨us, []⟩ us vs Q _ hr.in1 I.env0.in1 b r h) fun rs s' z => ?_)
  cases rs with
  | error er =>
    obtain ⟨_, _, _, _, _, _, _, _, _, _, _, _, y⟩ := z
    exact y.elim
  | ok fl =>
    cases fl with
    | ret u => exact I.after z
    | next => exact z.elim
    | brk => exact z.elim
    | cont => exact z.elim
def rLenO (C : Addr) (sp : Sp) : List V → Hp → VK → Prop := fun xs H Q => ∃ a dx fs, xs = [.ref a] ∧ H a = some (.ins C dx fs) ∧ sp [.ref a] H (fun z H' => ∃ i : Int, z = .int i ∧ 0 ≤ i ∧ i < 1000000 ∧ Q z H') (fun _ _ _ => False)
theorem call_lenO {k : Nat} {C f : Addr} {fd : FuncData} {ps : List Str} {sp : Sp} (hm : Meth X.K C "__len__" f) (F : FnOk X.prog X.w X.K X.mg X.base (L2.CX X.prog X.w) k f fd ps sp) (hr : Room (k + 1) X.A) (hb : Binds X.K fd ps []) : CallR X (.builtin "len") (rLenO C sp) := by
  intro pins s σ H xs us Q I r h
  obtain ⟨a, dx, fs, rfl, ha, q⟩ := h
  obtain ⟨u, rfl, ru⟩ := vals1 r
  cases (show u = Value.ref a from ru)
  obtain ⟨mA, J, _⟩ := ins_get I.hok ha
  obtain ⟨od, J, _⟩ := J.look
  refine len_own I.kIn J hm.at_ hm.fn (wpAny_mono (run_in1 (vs := [.ref a]) F hr hb I (.cons rfl .nil) q) (fun w s' z => ?_) fun _ _ z => z)
  obtain ⟨z', H', I', rz, i, ei, i0, i1, qz⟩ := z
  subst ei
  obtain ⟨t, e⟩ := (show ∃ t, w = Value.int i t from rz)
  exact ⟨i, t, e, i0, i1, fun t' => ⟨.int i, H', I'.tok _, ⟨t', rfl⟩, qz⟩⟩
theorem de_lenO (hex : ex = E0x) {k j : Nat} {C : Str} {fs : FS} {a : P} {x : Expr} {p pos : Pos} (hl : BltN X "len") (hnm : fs.name = "__len__") (G : GoodM X j C fs) (hj : j + 1 ≤ k) (hr : Room k X.A) (hn : ns x = true) (ha : DE X ex W a x) : DE X ex W (.lenO C fs a) (.Call (.Name "len" p) [x] [] pos) := by
  obtain ⟨c, f, fd, hm, hb, F⟩ := G
  rw [hnm] at hm
  obtain ⟨t, pt, jt⟩ := ha
  refine ⟨_, pe_callB (call_lenO hm F (hr.mono hj) hb) hl.1 hl.2 (by decide +kernel) (pa_cons pt pa_nil (star_cons hn)) (by decide) (by decide) (star_cons hn), fun HF H0 H al S r s Q R L h => ?_⟩
  simp only [evalE] at h
  refine jt _ _ _ _ _ _ _ _ R L (h.bind fun u S1 v H1 H01 al1 e1 R1 u1 h1 => ?_)
  unfold lenOU at h1
  split at h1
  · rename_i hc
    obtain ⟨⟨n, flds⟩, hq⟩ := Option.isSome_iff_exists.mp hc
    obtain ⟨b, dx, ws, rfl, _, _, _, _, _, k3, _⟩ := ins_of R1 u1 hq
    refine ⟨b, dx, ws, rfl, k3, callS_ok (W := fun _ _ _ _ => False) (s := s) hex R1 (us := [u]) ⟨_, [], rfl, u1, rfl⟩ ?_⟩
    cases q : callS fs [u] S1 with
    | exc e S2 => rw [q] at h1; exact h1.elim
    | bad => rw [q] at h1; exact h1.elim
    | ok z S2 =>
      rw [q] at h1
      cases z with
      | d y =>
        cases y with
        | int i =>
          simp only at h1
          split at h1
          · rename_i hi
            intro vz H' H0' al' e3 R3 hv
            cases hv
            exact ⟨i, rfl, hi.1, hi.2, h1 _ H' H0' al' e3 R3 rfl⟩
          · exact h1.elim
        | _ => exact h1.elim
      | _ => exact h1.elim
  · exact h1.elim
end
section
variable {prog : Program} {w : World} {A : Around} {E : Value → Shared → Prop} {s : Shared} {K : PySem.W.Frag} {x C f : Addr} {ox : Obj} {od : Option Obj} {b tb : Value}
theorem ne_body {Q : Fin → Shared → Prop} (hu : A.units < cLine) (KX : K.In s.heap) (I : PySem.W.InstAt s.heap x ox C od) (hs : PySem.W.findIn K (.ref C) "__eq__" = some (some (.ref f))) (hf : PySem.W.isFn K (.ref f) = true)
    (h : wpAny (model prog w) A (call (.ref f) [.ref x, b]) (fun r s1 => ∃ k, r = Value.bool k ∧ Q (.done (.ret (.bool (!k)))) s1) E s) : wpAny (model prog w) A (Builtin.«object.__ne__» ⟨[.ref x, b], []⟩) Q E s := by
  unfold Builtin.«object.__ne__»
  refine wpAny_bind (m := slotArgs "__ne__" 1 _) (wpAny_pure ?_)
  refine wpAny_bind (wpAny_cRoomFor hu ?_)
  refine wpAny_bind (m := callSpecialIfBound? (.ref x) "__eq__" [b]) (PySem.W.ifBound_K KX I hs hf (wpAny_mono h (fun r s1 z => ?_) fun _ _ z => z))
  obtain ⟨k, rfl, q⟩ := z
  exact wpAny_bind (wpAny_truthy_bool (wpAny_pure q))
theorem ifB_ne {Q : Option Value → Shared → Prop} (KX : K.In s.heap) (I : PySem.W.InstAt s.heap x ox C od) (hs : PySem.W.findIn K (.ref C) "__ne__" = some (some (.builtin "object.__ne__")))
    (h : wpAny (model prog w) A (call (.builtin "object.__ne__") [.ref x, b]) (fun v => Q (some v)) E s) : wpAny (model prog w) A (callSpecialIfBound? (.ref x) "__ne__" [b]) Q E s := by
  have last : wpAny (model prog w) A (call (.builtin "object.__ne__") ([.ref x] ++ [b]) >>= fun v => pure (some v)) Q E s := wpAny_bind (wpAny_mono h (fun _ _ z => wpAny_pure z) fun _ _ z => z)
  simp only [callSpecialIfBound?, bindSpecialIfBound?]
  refine wpAny_holding (wpAny_bind (wpAny_bind (wpAny_bind (I.type.here ((PySem.W.looks_findIn KX hs).here (wpAny_bind (wpAny_askSetting (wpAny_ite ?_))))))))
  split
  · exact wpAny_bind (wpAny_of_eq (F.cmp_object.ne.bind _) (wpAny_pure (by exact last)))
  · exact wpAny_tryCatch (wpAny_bind (wpAny_of_eq (F.cmp_object.ne.bind _) (wpAny_pure (by exact last))))
theorem rc_ne {Q : Value → Shared → Prop} (hu : A.units + 1 < cLine) (KX : K.In s.heap) (I : PySem.W.InstAt s.heap x ox C od) (hb : PySem.W.Looks (model prog w) s.heap (typeOf b) tb) (hn : PySem.W.notFirst K C tb = true) (ho : PySem.W.mroIn K C (.type "object") = some true)
    (hs : PySem.W.findIn K (.ref C) "__eq__" = some (some (.ref f))) (hf : PySem.W.isFn K (.ref f) = true) (hne : PySem.W.findIn K (.ref C) "__ne__" = some (some (.builtin "object.__ne__")))
    (h : wpAny (model prog w) A.in1 (call (.ref f) [.ref x, b]) (fun r s1 => ∃ k, r = Value.bool k ∧ Q (.bool (!k)) s1) E s) : wpAny (model prog w) A (richCompare .NotEq (.ref x) b) Q E s := by
  have one : wpAny (model prog w) A (tryCompare (.ref x) "__ne__" b) (fun r s1 => ∃ v, r = some v ∧ Q v s1) E s := by
    unfold tryCompare
    refine wpAny_bind (ifB_ne KX I hne (wpAny_call (codeAny_call_builtin F.cmp_object.ne.plain F.cmpEntry_ne (PySem.W.check_slot F.cmpKind_ne F.cmpSplit_ne (I.type.andThen (PySem.W.looks_mroIn KX ho)) (F.cmpArgs_ne _ _) (ne_body (A := A.in1) hu KX I hs hf (wpAny_mono h (fun r s1 z => ?_) fun _ _ z => z))))))
    obtain ⟨k, rfl, q⟩ := z
    exact ⟨k, rfl, wpAny_pure ⟨_, rfl, q⟩⟩
  unfold richCompare
  simp only [oneThing_ref, cmpInfo_NotEq]
  refine wpAny_holding (wpAny_bind (wpAny_cRoomFor (by omega) (wpAny_bind (I.type.here (wpAny_bind (hb.here ?_))))))
  split
  · rename_i q
    have e : PySem.W.subIn K tb (.ref C) = some false := by
      rcases Bool.or_eq_true_iff.mp hn with e | e
      · rw [beq_iff_eq.mp e] at q; simp at q
      · exact beq_iff_eq.mp e
    refine wpAny_bind ((PySem.W.looks_subIn KX e).here ?_)
    simp only [Bool.false_eq_true, if_false]
    refine wpAny_bind (wpAny_mono one (fun r s1 z => ?_) fun _ _ z => z)
    obtain ⟨v, rfl, hq⟩ := z
    exact wpAny_pure hq
  · refine wpAny_bind (wpAny_pure ?_)
    simp only [Bool.false_eq_true, if_false]
    refine wpAny_bind (wpAny_mono one (fun r s1 z => ?_) fun _ _ z => z)
    obtain ⟨v, rfl, hq⟩ := z
    exact wpAny_pure hq
end
/-! ### what == and isinstance ask of the class -/
structure WCls (K : PySem.W.Frag) (C : Addr) : Prop where
  cl : Cls K C
  ha : PySem.W.findIn K (.ref C) "__class__" = some (some (.builtin "object.__class__"))
  hn : PySem.W.specialIn K (.builtin "object.__class__") "__get__" = some (some (.builtin "getset_descriptor.__get__"))
  tk : PySem.W.takesIn K (.builtin "object.__class__") = some true
  ob : PySem.W.mroIn K C (.type "object") = some true
  me : PySem.W.kitOne K (.ref C) (.ref C) = some true
  no : ∀ T ∈ dTys, PySem.W.kitOne K (.type T) (.ref C) = some false
  nf : ∀ T ∈ dTys, PySem.W.notFirst K C (.type T) = true
  ne : PySem.W.findIn K (.ref C) "__ne__" = some (some (.builtin "object.__ne__"))
theorem ty_of_mem {x : PyData} (h : ∀ d, x ≠ .dict d) : Ty.of x ∈ dTys := by
  cases x <;> first | exact absurd rfl (h _) | simp [Ty.of, dTys]
section
variable {X : Cx} {ex : ExK} {W : WX}
theorem run_0 {k : Nat} {f : Addr} {fd : FuncData} {ps : List Str} {sp : Sp} {pins : List (Addr × Obj)} {σ : L2.St} {H : Hp} {s : Shared} {Q : VK} {us : List Value} {vs : List V} {E : Value → Shared → Prop} (F : FnOk X.prog X.w X.K X.mg X.base (L2.CX X.prog X.w) k f fd ps sp) (hr : Room k X.A) (hb : Binds X.K fd ps [])
    (I : Inv X pins σ H s) (r : Vals vs us) (h : sp vs H Q (fun _ _ _ => False)) : wpAny (model X.prog X.w) X.A (call (.ref f) us) (EP X pins σ Q) E s := by
  have hl : us.length = ps.length := by rw [← r.length]; exact F.len _ _ _ _ h
  have b := hb s us I.kIn (by rw [List.append_nil]; exact hl)
  rw [List.append_nil] at b
  refine wpAny_call (codeAny_mono (F.run X.A X.stack s H ⟨us, []⟩ us vs Q _ hr I.env0 b r h) fun rs s' z => ?_)
  cases rs with
  | error er =>
    obtain ⟨_, _, _, _, _, _, _, _, _, _, _, _, y⟩ := z
    exact y.elim
  | ok fl =>
    cases fl with
    | ret u => exact I.after z
    | next => exact z.elim
    | brk => exact z.elim
    | cont => exact z.elim
def eqOp (ng : Bool) : CmpOp := if ng then .NotEq else .Eq
def rEqO (K : PySem.W.Frag) (C : Addr) (ng : Bool) (sp : Sp) : R2 := fun x y H Q => ∃ a dx fs tb, x = .ref a ∧ H a = some (.ins C dx fs) ∧ TyX K H y tb ∧ PySem.W.notFirst K C tb = true ∧ sp [x, y] H (fun z H' => ∃ k, z = .bl k ∧ Q (.bl (if ng then !k else k)) H') (fun _ _ _ => False)
theorem op_eqO {k : Nat} {C f : Addr} {fd : FuncData} {ps : List Str} {sp : Sp} (ng : Bool) (wc : WCls X.K C) (hm : Meth X.K C "__eq__" f) (F : FnOk X.prog X.w X.K X.mg X.base (L2.CX X.prog X.w) k f fd ps sp) (hr : Room (k + 1) X.A) (hb : Binds X.K fd ps []) : OpR X (compareOp (eqOp ng)) (rEqO X.K C ng sp) := by
  intro pins s σ H x y v u Q I rx ry h
  obtain ⟨a, dx, fs, tb, rfl, ha, ty, hn, q⟩ := h
  cases (show v = Value.ref a from rx)
  obtain ⟨mA, J, _⟩ := ins_get I.hok ha
  obtain ⟨od, J, _⟩ := J.look
  obtain ⟨P, Z, p, _⟩ := kit_of I ry ty
  have lk := Z.ty (model X.prog X.w) s.heap I.kIn p
  have r2 : Vals [V.ref a, y] [Value.ref a, u] := .cons rfl (.cons ry .nil)
  cases ng with
  | false =>
    obtain ⟨m, hF⟩ := I.fr
    show wpAny _ _ (richCompare .Eq (.ref a) u) _ _ s
    refine PySem.W.cmp_K (op := .Eq) (hr.mono (Nat.le_succ _)).units0 hF I.ok.mod.kin J lk hn hm.at_ hm.fn (wpAny_mono (run_0 F (hr.mono (Nat.le_succ _)) hb I r2 q) (fun w s' z => ?_) fun _ _ z => z)
    obtain ⟨z', H', I', rz, kk, ek, qz⟩ := z
    subst ek
    cases (show w = Value.bool kk from rz)
    exact ⟨.bl kk, H', I', rfl, qz⟩
  | true =>
    show wpAny _ _ (richCompare .NotEq (.ref a) u) _ _ s
    refine rc_ne (by have := hr.un; omega) I.kIn J lk hn wc.ob hm.at_ hm.fn wc.ne (wpAny_mono (run_in1 F hr hb I r2 q) (fun w s' z => ?_) fun _ _ z => z)
    obtain ⟨z', H', I', rz, kk, ek, qz⟩ := z
    subst ek
    cases (show w = Value.bool kk from rz)
    exact ⟨kk, rfl, .bl (!kk), H', I', rfl, qz⟩
theorem eqO_ok (hex : ex = E0x) {ng : Bool} {C : Str} {fs : FS} (wc : WCls X.K (He.ga X.K C)) {HF H0 H : Hp} {al : List Addr} {S : Store} {s : L2.St} {Q : VK} {u w : U} {v v2 : V} (R : Rl X.K ex HF H0 H al S) (hu : UP X.K ex H0 al u v) (hw : UP X.K ex H0 al w v2)
    (h : Post X.K ex W HF H0 al s (UP X.K ex) (eqOU ng C fs u w S) Q) : rEqO X.K (He.ga X.K C) ng (spS X.K fs.ps.length fs.m) v v2 H Q := by
  unfold eqOU at h
  split at h
  · rename_i hc
    rw [Bool.and_eq_true, Bool.or_eq_true] at hc
    obtain ⟨⟨n, flds⟩, hq⟩ := Option.isSome_iff_exists.mp hc.1
    obtain ⟨b, dx, ws, rfl, _, _, _, _, _, k3, _⟩ := ins_of R hu hq
    have ty : ∃ tb, TyX X.K H v2 tb ∧ PySem.W.notFirst X.K (He.ga X.K C) tb = true := by
      rcases hc.2 with hi | hd
      · obtain ⟨⟨n2, flds2⟩, hq2⟩ := Option.isSome_iff_exists.mp hi
        obtain ⟨b2, dx2, ws2, rfl, _, _, _, _, _, m3, _⟩ := ins_of R hw hq2
        exact ⟨_, .base (.ins m3 wc.cl wc.ha wc.hn wc.tk wc.ob), by simp [PySem.W.notFirst]⟩
      · obtain ⟨y, hy⟩ := Option.isSome_iff_exists.mp hd
        have rr := (rdS_of R hw hy).rd1
        exact ⟨_, tyX_of R.fz rr, wc.nf _ (ty_of_mem fun d z => by subst z; exact rr.elim)⟩
    obtain ⟨tb, t1, t2⟩ := ty
    refine ⟨b, dx, ws, tb, rfl, k3, t1, t2, callS_ok (W := fun _ _ _ _ => False) (s := s) hex R (us := [u, w]) ⟨_, _, rfl, hu, v2, [], rfl, hw, rfl⟩ ?_⟩
    cases q : callS fs [u, w] S with
    | exc e S2 => rw [q] at h; exact h.elim
    | bad => rw [q] at h; exact h.elim
    | ok z S2 =>
      rw [q] at h
      cases z with
      | d y =>
        cases y with
        | bool kk =>
          intro vz H' H0' al' e3 R3 hv
          cases hv
          exact ⟨kk, rfl, h _ H' H0' al' e3 R3 rfl⟩
        | _ => exact h.elim
      | _ => exact h.elim
  · exact h.elim
theorem de_eqO (hex : ex = E0x) {ng : Bool} {k j : Nat} {C : Str} {fs : FS} {a b : P} {x y : Expr} {pos : Pos} (wc : WCls X.K (He.ga X.K C)) (hnm : fs.name = "__eq__") (G : GoodM X j C fs) (hj : j + 1 ≤ k) (hr : Room k X.A) (hmk : behindInMarks (eqOp ng) y = false) (ha : DE X ex W a x) (hb : DE X ex W b y) :
    DE X ex W (.eqO ng C fs a b) (.Compare x [eqOp ng] [y] pos) ∧ DT X ex W (.eqO ng C fs a b) (.Compare x [eqOp ng] [y] pos) := by
  obtain ⟨c, f, fd, hm, hbd, F⟩ := G
  rw [hnm] at hm
  obtain ⟨ta, pa, ja⟩ := ha
  obtain ⟨tb, pb, jb⟩ := hb
  refine ⟨⟨_, pe_cmpR (op_eqO ng wc hm F (hr.mono hj) hbd) pa pb hmk, fun HF H0 H al S r s Q R L h => ?_⟩, ⟨_, pt_cmpR (op_eqO ng wc hm F (hr.mono hj) hbd) pa pb hmk, fun HF H0 H al S r s Q R L h => ?_⟩⟩
  · simp only [evalE] at h
    refine ja _ _ _ _ _ _ _ _ R L (h.bind fun u S1 v H1 H01 al1 e1 R1 u1 h1 => ?_)
    refine jb _ _ _ _ _ _ _ _ R1 (L.ext e1) (h1.bind fun w S2 v2 H2 H02 al2 e2 R2 w2 h2 => ?_)
    exact eqO_ok hex wc R2 (UP.mono e2.sub e2.pre _ _ u1) w2 h2
  · have h := Post.test h
    simp only [evalE] at h
    refine ja _ _ _ _ _ _ _ _ R L (h.bind fun u S1 v H1 H01 al1 e1 R1 u1 h1 => ?_)
    refine jb _ _ _ _ _ _ _ _ R1 (L.ext e1) (h1.bind fun w S2 v2 H2 H02 al2 e2 R2 w2 h2 => ?_)
    exact eqO_ok hex wc R2 (UP.mono e2.sub e2.pre _ _ u1) w2 h2
theorem de_isw {C : Str} {a : P} {x : Expr} {p p2 pos : Pos} (wc : WCls X.K (He.ga X.K C)) (hi : BltN X "isinstance") (hg : Gl X C) (hd : (C == ("__debug__" : Str)) = false) (mC : X.mg C = some (.ref (He.ga X.K C))) (hn : ns x = true) (ha : DE X ex W a x) : DE X ex W (.isw a C) (.Call (.Name "isinstance" p) [x, .Name C p2] [] pos) := by
  obtain ⟨ta, pa, ja⟩ := ha
  refine ⟨_, pe_callB call_isi hi.1 hi.2 boot_isinstance (pa_cons pa (pa_cons (pe_glob (v := .ref (He.ga X.K C)) hg mC rfl hd) pa_nil) (star_cons hn)) (by decide) (by decide) (star_cons hn), fun HF H0 H al S r s Q R L h => ?_⟩
  simp only [evalE] at h
  refine ja _ _ _ _ _ _ _ _ R L (h.bind fun u S1 v H1 H01 al1 e1 R1 u1 h1 => ?_)
  unfold iswU at h1
  split at h1
  · rename_i hc
    obtain ⟨⟨n, flds⟩, hq⟩ := Option.isSome_iff_exists.mp hc
    obtain ⟨b, dx, ws, rfl, _, _, _, _, _, k3, _⟩ := ins_of R1 u1 hq
    exact ⟨_, _, _, _, true, rfl, .own _, .base (.ins k3 wc.cl wc.ha wc.hn wc.tk wc.ob), wc.me, h1.now R1 rfl⟩
  · split at h1
    · rename_i hd
      obtain ⟨y, hy⟩ := Option.isSome_iff_exists.mp hd
      have rr := (rdS_of R1 u1 hy).rd1
      exact ⟨_, _, _, _, false, rfl, .own _, tyX_of R1.fz rr, wc.no _ (ty_of_mem fun d z => by subst z; exact rr.elim), h1.now R1 rfl⟩
    · exact h1.elim
end
/-! ### defs that give a new list -/
def spN (K : PySem.W.Frag) (n : Nat) (m : List U → R) : Sp := fun vs H Q E => vs.length = n ∧ ∃ us H0, Same H0 H ∧ UPs K E0x H0 [] us vs ∧ match m us with
  | .ok (.list xs) => ∀ p ws H' H0', Same H H' → Same H0 H0' → (∀ b, H b ≠ none → H0' b = H0 b) → Same H0' H' → H p = none → H0' p = none → H' p = some (.lst ws) → DPs K H0' xs ws → Q (.ref p) H'
  | .exc c => ∀ H', Same H H' → E (.ref (He.ga K c)) none H'
  | _ => False
def GoodN (X : Cx) (k : Nat) (fe : FE) : Prop := ∃ f fd, X.mg fe.name = some (.ref f) ∧ PySem.W.keepIn X.K (.ref f) = true ∧ Binds X.K fd fe.ps [] ∧ FnOk X.prog X.w X.K X.mg X.base (L2.CX X.prog X.w) k f fd fe.ps (spN X.K fe.ps.length fe.m)
section
variable {X : Cx} {ex : ExK} {W : WX}
theorem callN_ok {fe : FE} {HF H0 H : Hp} {al : List Addr} {S : Store} {s : L2.St} {Q : VK} {us : List U} {vs : List V} (R : Rl X.K ex HF H0 H al S) (hu : UPs X.K ex H0 al us vs)
    (h : Post X.K ex W HF H0 al s (UP X.K ex) (callNU fe us S) Q) : spN X.K fe.ps.length fe.m vs H Q (fun cls d H' => W cls d s H') := by
  unfold callNU at h
  split at h
  · rename_i hc
    simp only [Bool.and_eq_true, beq_iff_eq] at hc
    refine ⟨by rw [← hu.length]; exact hc.1, us, H0, R.fz, (hu.closed hc.2).exAny hc.2, ?_⟩
    cases q : fe.m us with
    | ok x =>
      rw [q] at h
      cases x with
      | list xs =>
        intro p ws H' H0' s1 s0 n0 f0 hp hp0 hp1 d
        by_cases hT : NT H0
        · obtain ⟨R', e'⟩ := R.grow (H0' := noT H0') s1 (fun b x e => noT_some (s0 b x e) fun ps z => hT b ps (by rw [e, z])) (fun b hb => noT_eq (n0 b hb) hT) (fun b x e => f0 b x (noT_sub e)) fun _ => nt_noT _
          obtain ⟨R2, e2⟩ := R'.adopt hp1 (R.fr.free hp) (noT_none hp0) (fun z => R.old p z hp) (DPs.noT _ _ d)
          refine h (.ref p) H' _ _ (e'.trans e2) R2 ⟨p, ?_, rfl⟩
          rw [← R.len]
          simp
        · obtain ⟨R', e'⟩ := R.grow s1 s0 n0 f0 fun z => (hT z).elim
          obtain ⟨R2, e2⟩ := R'.adopt hp1 (R.fr.free hp) hp0 (fun z => R.old p z hp) d
          refine h (.ref p) H' H0' _ (e'.trans e2) R2 ⟨p, ?_, rfl⟩
          rw [← R.len]
          simp
      | _ => exact h.elim
    | exc c =>
      rw [q] at h
      intro H' s1
      obtain ⟨R', e'⟩ := R.grow s1 (Same.refl _) (fun _ _ => rfl) (R.fz.trans s1) fun z => z
      exact h H' H0 al e' R'
    | bad => rw [q] at h; exact h
  · exact h.elim
theorem de_callN {k : Nat} {fe : FE} {ps : Ps} {e : Expr} {es : List Expr} {p pos : Pos} (G : GoodN X k fe) (hr : Room k X.A) (hg : Gl X fe.name) (hdb : (fe.name == ("__debug__" : Str)) = false) (tk : Takes X W) (hn : (e :: es).all ns = true) (ha : DA X ex W ps (e :: es)) :
    DE X ex W (.callN fe ps) (.Call (.Name fe.name p) (e :: es) [] pos) := by
  obtain ⟨f, fd, hm, hk, hb, F⟩ := G
  obtain ⟨t, pt, jt⟩ := ha
  simp only [List.all_cons, Bool.and_eq_true] at hn
  refine ⟨_, pe_callS (E := fun s cls d H => W cls d s H) F hr hg hm hk hb (fun s => passAt tk s) pt hdb (star_cons hn.1) (star_any hn.2), fun HF H0 H al S r s Q R L h => ?_⟩
  simp only [evalE] at h
  refine jt _ _ _ _ _ _ _ _ R L (h.bind fun us S1 vs H1 H01 al1 e1 R1 u1 h1 => ?_)
  exact callN_ok R1 u1 h1
theorem de_lstL {ps : Ps} {es : List Expr} {pos : Pos} (ha : DA X ex W ps es) (hlen : ∀ r S us S', evalEs ps r S = .ok us S' → us.length ≤ 1000) : DE X ex W (.lstL ps) (.List es pos) := by
  obtain ⟨t, pt, jt⟩ := ha
  refine ⟨_, pe_lst pt, fun HF H0 H al S r s Q R L h => ?_⟩
  simp only [evalE] at h
  have hz : ∀ us S', evalEs ps r S = .ok us S' → us.length ≤ sizeLine := fun us S' e => Nat.le_trans (hlen r S us S' e) (by decide)
  refine jt _ _ _ _ _ _ _ _ R L ?_
  cases q : evalEs ps r S with
  | exc c S1 => rw [q] at h; exact h
  | bad => rw [q] at h; exact h
  | ok us S1 =>
    rw [q] at h
    intro vs H1 H01 al1 e1 R1 u1
    have h1 := Post.shift e1 h
    refine ⟨by rw [← u1.length]; exact hz us S1 q, fun p hp => ?_⟩
    simp only [Res.ok_bind] at h1
    obtain ⟨R', e'⟩ := R1.lay (o := .lst vs) hp
    exact h1 (.ref p) _ _ al1 e' R' ⟨p, vs, rfl, upd_same, UPs.mono e'.sub e'.pre us vs u1⟩
theorem DPs.take_ {K : PySem.W.Frag} {H : Hp} : ∀ {ds : List PyData} {vs : List V} (n : Nat), DPs K H ds vs → DPs K H (ds.take n) (vs.take n)
  | _, _, 0, _ => by simp [DPs]
  | [], _, n + 1, h => by cases h; simp [DPs]
  | d :: ds, _, n + 1, ⟨v, r, h1, h2, h3⟩ => by subst h1; exact ⟨v, r.take n, rfl, h2, DPs.take_ n h3⟩
theorem DPs.drop_ {K : PySem.W.Frag} {H : Hp} : ∀ {ds : List PyData} {vs : List V} (n : Nat), DPs K H ds vs → DPs K H (ds.drop n) (vs.drop n)
  | _, _, 0, h => h
  | [], _, n + 1, h => by cases h; simp [DPs]
  | d :: ds, _, n + 1, ⟨v, r, h1, h2, h3⟩ => by subst h1; exact DPs.drop_ n h3
theorem de_insA {i : Nat} {a b : P} {x : Str} {e f : Expr} {px apos pos : Pos} (hN : X.N[i]? = some x) (hv : Vis X.env.scope x) (hd : (x == ("__debug__" : Str)) = false) (hcd : (x == ("__classdict__" : Str)) = false) (hl : (apos.endLine == pos.line) = true) (hn : ns e = true) (hn2 : ns f = true) (ha : DE X ex W a e) (hb : DE X ex W b f) :
    DE X ex W (.insA i a b) (.Call (.Attribute (.Name x px) "insert" apos) [e, f] [] pos) := by
  obtain ⟨ta, pa, ja⟩ := ha
  obtain ⟨tb, pb, jb⟩ := hb
  have hns : [e, f].all ns = true := by simp [hn, hn2]
  refine ⟨_, pe_bm PySem.F.plainAttrs_list PySem.F.slot_list_insert PySem.F.type_list_insert mt_insert (pe_var hN hv hd hcd) (pa_cons pa (pa_cons pb pa_nil (star_cons hn2)) (star_cons hn)) (base_ok rfl) (few_ok hns (by simp)) hl (star_cons hn) (star_any (by simp [hn2])), fun HF H0 H al S r s Q R L h => ?_⟩
  simp only [evalE] at h
  cases q : cellAt r S i with
  | none => rw [q] at h; exact h.elim
  | some o =>
    obtain ⟨n, ds⟩ := o
    rw [q] at h
    simp only [Option.isSome_some, if_true] at h
    obtain ⟨c, vs, h0, h1, h2, h3, h4, h5⟩ := cell_of R L q
    refine ⟨_, h1, .inl ⟨rfl, vs, SqL.of h4⟩, ?_⟩
    refine ja _ _ _ _ _ _ _ _ R L (h.bind fun u S1 v H1 H01 al1 e1 R1 u1 h6 => ?_)
    refine jb _ _ _ _ _ _ _ _ R1 (L.ext e1) (h6.bind fun w S2 v2 H2 H02 al2 e2 R2 w2 h7 => ?_)
    unfold insU at h7
    split at h7
    · rename_i m es k y q1 q2
      obtain ⟨rfl, g3⟩ := set_cell (HF := HF) (H0 := H0) (H := H) (al := al) h0 q1
      have g1 := pre_get e2.pre (pre_get e1.pre h2)
      obtain ⟨_, _, zs, g4, g5⟩ := R2.at_ _ c _ g1 g3
      have hy : DP X.K H02 y v2 := by
        cases w <;> simp only [asD] at q2 <;> cases q2
        exact w2
      cases (show v = V.int k from u1)
      split at h7
      · rename_i hz
        refine ⟨c, zs, k, v2, rfl, rfl, g4, by rw [← g5.length]; exact hz.1, hz.2.1, by have := hz.2.2; omega, ?_⟩
        exact h7 _ _ _ _ Xt.refl (R2.put g1 g3 (((g5.take_ _).append (DPs.one hy)).append (g5.drop_ _))) rfl
      · exact h7.elim
    · exact h7.elim
end
end PD
/-! Part L: sorted(places, key=lambda one: abs(one - x)). -/
namespace PD
open PySem PySem.Spec PyProof.Rows L2
/-- a lambda of one parameter `one` that reads the captured name `x` -/
structure Lam1 (sc scope : Scope) (one x : Str) : Prop where
  kind : scope.kind = .function
  co : scope.isCoroutine = false
  gen : scope.isGenerator = false
  nocell : ∀ y ∈ scope.names, y.2 ≠ .cell
  free : ∀ y ∈ scope.names, y.2 = .free → sc.names.lookup y.1 = some .cell ∨ sc.names.lookup y.1 = some .free
  hone : scope.names.lookup one = some .local
  hx : scope.names.lookup x = some .free
  habs : scope.names.lookup ("abs" : Str) = some .globalImplicit
def lam1B (sc scope : Scope) (one x : Str) : Bool :=
  (decide (scope.kind = .function) && !scope.isCoroutine && !scope.isGenerator) && (scope.names.all fun y => !decide (y.2 = .cell) && (!decide (y.2 = .free) || decide (sc.names.lookup y.1 = some .cell) || decide (sc.names.lookup y.1 = some .free))) &&
  (decide (scope.names.lookup one = some .local) && decide (scope.names.lookup x = some .free) && decide (scope.names.lookup ("abs" : Str) = some .globalImplicit))
theorem lam1_by {sc scope : Scope} {one x : Str} (h : lam1B sc scope one x = true) : Lam1 sc scope one x := by
  unfold lam1B at h
  simp only [Bool.and_eq_true, Bool.or_eq_true, Bool.not_eq_true', decide_eq_true_eq, decide_eq_false_iff_not, List.all_eq_true] at h
  obtain ⟨⟨⟨⟨a1, a2⟩, a3⟩, a4⟩, ⟨a5, a6⟩, a7⟩ := h
  exact ⟨a1, a2, a3, fun y hy => (a4 y hy).1, fun y hy e => ((a4 y hy).2.elim (fun z => z.elim (fun z => absurd e z) .inl) .inr), a5, a6, a7⟩
section
variable {X : Cx} {pins : List (Addr × Obj)} {σ : L2.St} {H : Hp} {s : Shared}
theorem key_turn {scope : Scope} {one x : Str} {params : Arguments} {f c' : Addr} {pm ctv : Value} {p1 p2 p3 p4 p5 : Pos} {i : Nat} {a n : Int} {t : Tok} {B : Around} (I : Inv X pins σ H s) (L : Lam1 X.env.scope scope one x)
    (hf : s.heap.get? f = some (PySem.W.kla_obj "<lambda>" (X.env.qual ++ "<lambda>") params (.Call (.Name "abs" p1) [.BinOp (.Name one p2) .Sub (.Name x p3) p4] [] p5) scope (cloFrom X.env.cells scope.names []) pm c' ctv))
    (hc : H c' = some (LamX.CodeO c' (X.env.qual ++ "<lambda>")))
    (hbind : ∀ v, bindArgs (PySem.W.kla_fn "<lambda>" (X.env.qual ++ "<lambda>") params (.Call (.Name "abs" p1) [.BinOp (.Name one p2) .Sub (.Name x p3) p4] [] p5) scope (cloFrom X.env.cells scope.names []) pm (.ref c') ctv) ⟨[v], []⟩ = pure [(one, v)])
    (hN : X.N[i]? = some x) (hv : σ[i]? = some (some (.int a))) (hvis : Vis X.env.scope x) (hm : X.mg "abs" = none) (hdp : B.depth < recursionLimit) (h1 : (one == ("__debug__" : Str)) = false) (h2 : (x == ("__debug__" : Str)) = false) (h3 : (x == ("__classdict__" : Str)) = false) :
    wpAny (model X.prog X.w) B (call (.ref f) [.int n t]) (PySem.W.KeyPure (.int (absZ (n - a))) s) (fun _ _ => False) s := by
  obtain ⟨⟨oc, vs, tt, hoc, hdc, hvc⟩, _, _⟩ := I.hok c' _ hc
  refine wpAny_call (PySem.W.kla_callFunE hdp hf rfl L.co L.gen rfl ⟨c', oc, vs, tt, rfl, hoc, hdc, hvc⟩ ?_)
  rw [hbind]
  refine wpAny_pure (wpAny_newFunctionEnv (fun y hy => L.nocell y hy) (fun y hy => ?_) (fun h₁ hns hsb => ⟨I.nolimit.fresh _ hsb, ?_⟩) L.kind)
  · rw [List.mem_singleton.mp hy]; exact L.hone
  have kp : ∀ b o, s.heap.get? b = some o → h₁.get? b = some o := fun b o e => hsb.extBut b o (Nat.ne_of_lt (Heap.lt_size e)) (Heap.get?_push_of_some _ e)
  refine PySem.W.kla_codeExpr ?_
  obtain ⟨mb, b1, b2⟩ := I.mod.blt
  refine wpAny_Call_Name_kw (Calls.Name_function_global L.kind L.habs (Calls.loadGlobal_builtin (mg := X.mg) ((I.mod.glob.keeps I.bk).keeps kp) hm ((b1.keeps I.bk).keeps kp) ((b2 "abs" (by decide)).trans (show bootBuiltins "abs" = some (.builtin "abs") by decide +kernel)) ?_))
  refine PyProof.Rows.callWith_builtin1 ?_
  obtain ⟨m, hn, hl⟩ := I.loc
  obtain ⟨u, ⟨t2, rfl⟩, l⟩ := hl i x _ hN hv hvis
  obtain ⟨c, hcl⟩ : ∃ c, (cloFrom X.env.cells scope.names []).lookup x = some c := mem_lookup (cloFrom_has (cells := X.env.cells) (acc := []) (PySem.mem_of_lookup L.hx))
  have cm : X.env.cells.lookup x = some c := by
    rcases cloFrom_mem (PySem.mem_of_lookup hcl) with z | ⟨e1, e2⟩
    · cases z
    · have : ∃ c1, X.env.cells.lookup x = some c1 := (L.free _ e1 rfl).elim (fun k => I.ok.has _ (.inl k)) (fun k => I.ok.has _ (.inr k))
      obtain ⟨c1, hc1⟩ := this
      have e3 : c = c1 := by rw [e2, hc1] <;> rfl
      rw [e3]; exact hc1
  have hcell : h₁.IsCell c (some (.int a t2)) := by
    rcases l with ⟨k', _⟩ | ⟨_, c3, e', z⟩
    · have k' : X.env.scope.names.lookup x = some .local := k'
      rcases L.free _ (PySem.mem_of_lookup L.hx) rfl with k2 | k2 <;> rw [show X.env.scope.names.lookup x = _ from k2] at k' <;> cases k'
    · rw [cm] at e'
      cases e'
      obtain ⟨o, ho, hd⟩ := z
      exact ⟨o, kp _ _ ho, hd⟩
  refine Calls.spliced_cons (wpAny_BinOp ?_)
  refine wpAny_Name ?_ h1
  refine wpAny_loadName_local (v := .int n t) L.kind L.hone hns ?_ ?_
  · simp [List.lookup_cons]
  refine wpAny_Name ?_ h2
  refine wpAny_loadName_free (v := .int a t2) L.kind L.hx hcl hcell ?_ h3
  refine sub_int ?_
  refine Calls.spliced_nil ?_
  refine call_abs_int fun u tk => ?_
  exact ⟨_, _, rfl, kp, .int _ _⟩
theorem ints_each : ∀ {ns : List Int} {its : List Value}, Vals (ns.map V.int) its → PySem.W.EachIs (fun v (n : Int) => ∃ t, v = Value.int n t) its ns
  | [], _, .nil => .nil
  | n :: ns, _, .cons r rs => .cons r (ints_each rs)
theorem each_ints : ∀ {ns : List Int} {its : List Value}, PySem.W.EachIs (fun v (n : Int) => ∃ t, v = Value.int n t) its ns → Vals (ns.map V.int) its
  | [], _, .nil => .nil
  | n :: ns, _, .cons r rs => .cons r (each_ints rs)
theorem sqL_extN {K : PySem.W.Frag} {H H' : Hp} {a : Addr} {xs : List V} (e : LamX.ExtN H H') (h : SqL K H a xs) : SqL K H' a xs := by
  rcases h with (h | ⟨o, h⟩) | h
  · exact .inl (.inl (e _ _ h (fun _ z => nomatch z)))
  · exact .inl (.inr ⟨o, e _ _ h (fun _ z => nomatch z)⟩)
  · exact .inr h
def tSortA (K : PySem.W.Frag) (P : Addr) (q : Str) (i : Nat) (t : TA) : TE := fun σ H Q => t σ H fun vs H1 => ∃ (l : Addr) (ns : List Int) (a : Int), vs = [.ref l] ∧ SqL K H1 l (ns.map V.int) ∧ σ[i]? = some (some (.int a)) ∧ LamX.TabS H1 P q ∧
  ∀ H2, LamX.ExtN H1 H2 → LamX.TabS H2 P q → ∀ D, H2 D = none → Q (.ref D) (upd H2 D (.lst ((ns.mergeSort (nearLe a)).map V.int)))
theorem pe_sortA {scope : Scope} {one x : Str} {params : Arguments} {c P : Addr} {p0 p1 p2 p3 p4 p5 lpos kpos pos : Pos} {i : Nat} {e : Expr} {t : TA} (L : Lam1 X.env.scope scope one x) (TB : LamX.TabB X.base X.mg c P) (hcode : X.env.code = .ref c) (hdef : defaultsOf params X.env = ([], []))
    (hbind : ∀ (q : Str) (cl : List (Str × Addr)) (pm cv ctv v : Value), bindArgs (PySem.W.kla_fn "<lambda>" q params (.Call (.Name "abs" p1) [.BinOp (.Name one p2) .Sub (.Name x p3) p4] [] p5) scope cl pm cv ctv) ⟨[v], []⟩ = pure [(one, v)])
    (hN : X.N[i]? = some x) (hvis : Vis X.env.scope x) (hm : X.mg "abs" = none) (hms : X.mg "sorted" = none) (hgs : Gl X "sorted") (hdp : X.A.depth < recursionLimit) (hun : X.A.units + 100 < cLine) (h1 : (one == ("__debug__" : Str)) = false) (h2 : (x == ("__debug__" : Str)) = false) (h3 : (x == ("__classdict__" : Str)) = false)
    (ha : PA X [e] t) (hn : ns e = true) :
    PE X (.Call (.Name "sorted" p0) [e] [⟨some "key", .Lambda params (.Call (.Name "abs" p1) [.BinOp (.Name one p2) .Sub (.Name x p3) p4] [] p5) scope lpos, kpos⟩] pos) (tSortA X.K P (X.env.qual ++ "<lambda>") i t) := by
  refine ⟨fun pins s σ H Q I h => ?_⟩
  refine wpAny_Call_Name_kw (ld_blt I hgs hms (show bootBuiltins "sorted" = some (.builtin "sorted") by decide +kernel) ?_)
  refine PyProof.Rows.callWith_kw (thn (ha.run pos pins s σ H _ I h) fun us s1 ⟨vs, H1, I1, r1, q1⟩ => ?_) (by rw [star_cons hn]; rfl) (by rw [star_cons hn]; rfl) rfl rfl
  obtain ⟨l, ns, a, rfl, hs, hv, hT, q⟩ := q1
  obtain rfl := Vals.ref1 r1
  show wpAny _ _ (evalAll ((do let v ← eval (.Lambda params _ scope lpos) X.env; standAt pos; pure v) :: [])) _ _ s1
  have hfree : ∀ y ∈ scope.names, y.2 = .free → ∃ c, X.env.cells.lookup y.1 = some c := fun y hy e => (L.free y hy e).elim (fun k => I1.ok.has _ (.inl k)) (fun k => I1.ok.has _ (.inr k))
  refine wpAny_evalAll_cons (wpAny_bind (LamX.lam_make2 (T := [(P, X.env.qual ++ "<lambda>")]) I1 TB hcode (by simp) (fun p hp _ => by rw [List.mem_singleton.mp hp]) (fun p hp => by rw [List.mem_singleton.mp hp]; exact hT) hdef hfree fun f c' pm ctv H2 s2 I2 eN T2 hf hfn hfr hco => ?_))
  refine wpAny_bind (wpAny_standAt (wpAny_pure (wpAny_evalAll_nil ?_)))
  have T3 := T2 _ (List.mem_singleton.mpr rfl)
  obtain ⟨its, rv, hl, hz⟩ := I2.list (sqL_extN eN hs)
  have ei := ints_each rv
  rw [List.length_map] at hz
  show wpAny _ _ (call (.builtin "sorted") [.ref l] [(Str.ofString "key", .ref f)]) _ _ s2
  refine PySem.W.sorted_key_data (b := false) (fun n : Int => PyData.int (absZ (n - a))) hl.isList ei (PySem.W.AllAlike.of fun _ _ => by simp [PySem.W.alike]) (PySem.W.Sortable.others fun _ => ⟨by simp, by simp⟩) hz (fun n _ => by simp only [PyData.depth]; omega) (PyProof.Rows.ksk_s1 _ _) (fun _ => PyProof.Rows.ksk_l1 _ _) (fun _ => PyProof.Rows.ksk_t1 _ _)
    (fun v n ⟨tt, hvv⟩ _ h tk kp => ?_) fun out c0 h' tk kp _ hD hlen eo => ?_
  · subst hvv
    exact key_turn (I2.kept kp) L (kp _ _ hf) hco (hbind _ _ _ _ _) hN hv hvis hm hdp h1 h2 h3
  · rw [PySem.W.dataLe_int] at eo
    have hlen2 : ((ns.mergeSort (nearLe a)).map V.int).length ≤ sizeLine := by rw [List.length_map, List.length_mergeSort]; exact hz
    exact ⟨.ref _, upd H2 (s2.heap.objs.size + 1) (.lst ((ns.mergeSort (nearLe a)).map V.int)), I2.laid (t' := tk) kp (Nat.le_succ _) ⟨hlen2, _, c0, each_ints eo, hD⟩, rfl, q _ eN T3 _ (I2.hok.fresh (Nat.le_succ _))⟩
end
/-! ### the text -/
abbrev par1 (one : Str) (p : Pos) : Arguments := ⟨[], [⟨one, none, p⟩], none, [], [], none, []⟩
theorem sortAU_inv {f : Str} {r : Rho} {i : Nat} {u : U} {S : Store} {z : U} {S' : Store} (h : sortAU f r i u S = .ok z S') : ∃ ds a ns, u = .d (.list ds) ∧ r[i]? = some (some (.d (.int a))) ∧ S[0]? = some (.tab f) ∧ (S.drop 1).all (fun c => !c.isTab) = true ∧ ints? ds = some ns ∧ z = .d (.list ((ns.mergeSort (nearLe a)).map .int)) ∧ S' = S := by
  unfold sortAU at h
  split at h
  · rename_i ds a g q1 q2
    split at h
    · rename_i hg
      obtain ⟨rfl, hg2⟩ := hg
      split at h
      · rename_i ns q3
        cases h
        exact ⟨ds, a, ns, rfl, q1, q2, hg2, q3, rfl, rfl⟩
      · cases h
    · cases h
  · cases h
theorem sortAU_exc {f : Str} {r : Rho} {i : Nat} {u : U} {S : Store} {c : Str} {S' : Store} (h : sortAU f r i u S = .exc c S') : False := by
  unfold sortAU at h
  split at h
  · split at h
    · split at h <;> cases h
    · cases h
  · cases h
theorem ints_dps {K : PySem.W.Frag} {H : Hp} : ∀ {ds : List PyData} {ns : List Int} {vs : List V}, ints? ds = some ns → DPs K H ds vs → vs = ns.map V.int
  | [], _, _, e, h => by cases e; exact h
  | .int i :: ds, ns, _, e, ⟨v, r, h1, h2, h3⟩ => by
    cases q : ints? ds with
    | none => simp [ints?, q] at e
    | some ms =>
      simp [ints?, q] at e
      subst e
      subst h1
      rw [ints_dps q h3, show v = V.int i from h2]
      rfl
  | .none :: _, _, _, e, _ => by simp [ints?] at e
  | .bool _ :: _, _, _, e, _ => by simp [ints?] at e
  | .str _ :: _, _, _, e, _ => by simp [ints?] at e
  | .list _ :: _, _, _, e, _ => by simp [ints?] at e
  | .tuple _ :: _, _, _, e, _ => by simp [ints?] at e
  | .dict _ :: _, _, _, e, _ => by simp [ints?] at e
theorem dps_ints {K : PySem.W.Frag} {H : Hp} : ∀ (ns : List Int), DPs K H (ns.map .int) (ns.map V.int)
  | [] => rfl
  | n :: ns => ⟨_, _, rfl, rfl, dps_ints ns⟩
theorem same_extN {G H H' : Hp} (h : Same G H) (n : NT G) (e : LamX.ExtN H H') : Same G H' := fun b x q => e b x (h b x q) fun ps z => n b ps (by rw [q, z])
/-- the tables grow, all else stays -/
theorem Rl.tabs {K : PySem.W.Frag} {ex : ExK} {HF H0 H H' : Hp} {al : List Addr} {S : Store} {n : Nat} {a : Addr} {f : Str} (R : Rl K ex HF H0 H al S) (h1 : al[n]? = some a) (h2 : S[n]? = some (.tab f)) (one : ∀ (m : Nat) (b : Addr) (g : Str), al[m]? = some b → S[m]? = some (Cell.tab g) → b = a ∧ g = f) (e : LamX.ExtN H H') (t : LamX.TabS H' a (lamQ f)) : Rl K ex HF H0 H' al S := by
  obtain ⟨k1, k2, k3, k4, k5⟩ := R.at_ n a _ h1 h2
  have fz := same_extN R.fz k5 e
  have at' : ∀ (m : Nat) (b : Addr) (c : Cell), al[m]? = some b → S[m]? = some c → COk K ex HF H0 H' al b c ∧ H' b ≠ none := fun m b c hb hc => by
    have q := R.at_ m b c hb hc
    cases c with
    | dead =>
      refine ⟨q, ?_⟩
      cases q0 : H0 b with
      | none => exact absurd q0 q
      | some o => rw [fz b o q0]; simp
    | lst ds =>
      obtain ⟨p1, p2, us, p3, p4⟩ := q
      have p3' := e _ _ p3 (fun _ z => nomatch z)
      exact ⟨⟨p1, p2, us, p3', p4⟩, by rw [p3']; simp⟩
    | dct kvs =>
      obtain ⟨p1, p2, us, p3, p4, p5⟩ := q
      have p3' := e _ _ p3 (fun _ z => nomatch z)
      exact ⟨⟨p1, p2, us, p3', p4, p5⟩, by rw [p3']; simp⟩
    | ins cn fs =>
      obtain ⟨p1, p2, dx, us, p3, p4, p5, p6, p7, p8, p9⟩ := q
      have p3' := e _ _ p3 (fun _ z => nomatch z)
      exact ⟨⟨p1, p2, dx, us, p3', p4, p5, p6, p7, e _ _ p8 (fun _ z => nomatch z), p9⟩, by rw [p3']; simp⟩
    | tab g =>
      obtain ⟨p1, p2, p3, p4, p5⟩ := q
      obtain ⟨rfl, rfl⟩ := one m b g hb hc
      refine ⟨⟨p1, p2, t, p4, p5⟩, ?_⟩
      obtain ⟨ps, e1, _⟩ := t
      rw [e1]; simp
  refine ⟨same_extN R.fr k4.1 e, fz, R.len, R.nd, fun m b c hb hc => (at' m b c hb hc).1, fun b hb => ?_⟩
  obtain ⟨m, hm, hb'⟩ := List.getElem_of_mem hb
  have hb2 : al[m]? = some b := by rw [List.getElem?_eq_getElem hm, hb']
  have hS : m < S.length := by rw [← R.len]; exact hm
  exact (at' m b S[m] hb2 (List.getElem?_eq_getElem hS)).2
section
variable {X : Cx} {ex : ExK} {W : WX}
theorem de_sortA {f : Str} {i : Nat} {a : P} {scope : Scope} {x : Str} {e : Expr} {pp p0 p1 p2 p3 p4 p5 lpos kpos pos : Pos} (L : Lam1 X.env.scope scope "one" x) (TB : LamX.TabB X.base X.mg (He.cT X.K (f, none)).1 (tabA X.K f)) (hcode : X.env.code = .ref (He.cT X.K (f, none)).1) (hq : X.env.qual = f ++ ".<locals>.")
    (hN : X.N[i]? = some x) (hvis : Vis X.env.scope x) (hm : X.mg "abs" = none) (hs : BltN X "sorted") (hdp : X.A.depth < recursionLimit) (hun : X.A.units + 100 < cLine) (h2 : (x == ("__debug__" : Str)) = false) (h3 : (x == ("__classdict__" : Str)) = false)
    (hn : ns e = true) (ha : DE X ex W a e) :
    DE X ex W (.sortA f i a) (.Call (.Name "sorted" p0) [e] [⟨some "key", .Lambda (par1 "one" pp) (.Call (.Name "abs" p1) [.BinOp (.Name "one" p2) .Sub (.Name x p3) p4] [] p5) scope lpos, kpos⟩] pos) := by
  obtain ⟨ta, pa, ja⟩ := ha
  refine ⟨_, pe_sortA L TB hcode rfl (fun _ _ _ _ _ _ => rfl) hN hvis hm hs.2 hs.1 hdp hun (by decide) h2 h3 (pa_cons pa pa_nil (star_cons hn)) hn, fun HF H0 H al S r s Q R L' h => ?_⟩
  simp only [evalE] at h
  refine ja _ _ _ _ _ _ _ _ R L' (h.bind fun u S1 v H1 H01 al1 e1 R1 u1 h1 => ?_)
  cases q : sortAU f r i u S1 with
  | exc c S2 => exact (sortAU_exc q).elim
  | bad => rw [q] at h1; exact h1.elim
  | ok z S2 =>
    rw [q] at h1
    obtain ⟨ds, a0, ns, rfl, k1, k2, k3, k4, rfl, rfl⟩ := sortAU_inv q
    obtain ⟨l, vs, rfl, k5, k6⟩ := u1
    have k7 := ints_dps k4 k6
    subst k7
    obtain ⟨w, k8, k9⟩ := (L'.ext e1).at_ i _ k1
    cases (show w = V.int a0 from k9)
    have hP : ∃ P, al1[0]? = some P := by
      have : 0 < al1.length := by rw [R1.len]; exact (List.getElem?_eq_some_iff.mp k2).1
      exact ⟨al1[0], List.getElem?_eq_getElem this⟩
    obtain ⟨P, hP⟩ := hP
    obtain ⟨t1, t2, t3, t4, t5⟩ := R1.at_ 0 P _ hP k2
    obtain ⟨t4, rfl⟩ := t4
    have hlq : X.env.qual ++ "<lambda>" = lamQ f := by rw [hq]; rfl
    refine ⟨l, ns, a0, rfl, SqL.of (R1.fz _ _ k5), k8, by rw [hlq]; exact t3, fun H2 eN T2 D hD => ?_⟩
    rw [hlq] at T2
    have R2 := R1.tabs hP k2 (fun m b g hb hg => ?_) eN T2
    · exact h1.newL R2 hD (dps_ints _)
    · cases m with
      | zero =>
        rw [hP] at hb
        rw [k2] at hg
        cases hb
        cases hg
        exact ⟨rfl, rfl⟩
      | succ m =>
        have hm' : Cell.tab g ∈ S2.drop 1 := List.mem_of_getElem? (i := m) (by rw [List.getElem?_drop, Nat.add_comm]; exact hg)
        have := List.all_eq_true.mp k3 _ hm'
        cases this
end
end PD
/-! Part Q: closures: lambdas without parameters, made in lists, called elsewhere. -/
namespace PD
open PySem PySem.Spec PyProof.Rows L2

/-! ### cells that nobody writes for a while -/
def pinA (A : List Addr) (h : Heap) (H : Hp) : Hp := fun b => if b ∈ A then (h.get? b).map (fun o => HO.frz o oT) else H b
def unA (A : List Addr) (H : Hp) : Hp := fun b => if b ∈ A then none else H b
def reA (A : List Addr) (G H : Hp) : Hp := fun b => if b ∈ A then G b else H b
section
variable {Pg : Program} {w : World} {A : List Addr} {H H' G : Hp} {h h' B : Heap} {fs : List Addr} {b : Addr} {o : Obj}
theorem pinA_in (hb : b ∈ A) (e : h.get? b = some o) : pinA A h H b = some (.frz o oT) := by
  unfold pinA
  rw [if_pos hb, e]
  rfl
theorem pinA_out (hb : b ∉ A) : pinA A h H b = H b := if_neg hb
theorem unA_in (hb : b ∈ A) : unA A H b = none := if_pos hb
theorem unA_out (hb : b ∉ A) : unA A H b = H b := if_neg hb
theorem reA_in (hb : b ∈ A) : reA A G H b = G b := if_pos hb
theorem reA_out (hb : b ∉ A) : reA A G H b = H b := if_neg hb
theorem okT (e : h.get? b = some o) : ObjOk Pg w H h b (.frz o oT) := ⟨e, trivial, ⟨o, e⟩, fun _ _ _ _ => trivial⟩
theorem hok_pin (ok : HOk Pg w H h) (hA : ∀ b ∈ A, H b = none ∧ ∃ o, h.get? b = some o) : HOk Pg w (pinA A h H) h := fun b o e => by
  have out : ∀ d x, H d = some x → d ∉ A := fun d x q z => by rw [(hA d z).1] at q; cases q
  by_cases hb : b ∈ A
  · obtain ⟨_, ob, eb⟩ := hA b hb
    rw [pinA_in hb eb] at e
    cases e
    exact okT eb
  · rw [pinA_out hb] at e
    exact (ok b o e).stay (fun d v _ q => q) (fun d q => by rw [pinA_out (out d _ q)]; exact q) (fun d xs q => by rw [pinA_out (out d _ q)]; exact q)
theorem same_pin (hA : ∀ b ∈ A, H b = none) : Same H (pinA A h H) := fun b x e => by
  rw [pinA_out (fun z => by rw [hA b z] at e; cases e)]
  exact e
/-- behind a call under pins: they are taken off -/
theorem un_back (hA : ∀ b ∈ A, H b = none ∧ ∃ o, h.get? b = some o) (un : Un fs [] (pinA A h H) H' h h') (ok : HOk Pg w H' h') : Un fs [] H (unA A H') h h' ∧ HOk Pg w (unA A H') h' := by
  have out : ∀ d x, H d = some x → d ∉ A := fun d x q z => by rw [(hA d z).1] at q; cases q
  have pin : ∀ b ∈ A, ∃ o, h.get? b = some o ∧ H' b = some (.frz o oT) ∧ h'.get? b = some o := fun b hb => by
    obtain ⟨_, o, e⟩ := hA b hb
    have q := un.frzs b o oT (pinA_in hb e)
    exact ⟨o, e, q, (ok b _ q).1⟩
  refine ⟨⟨fun b o e n hb hx => ?_, fun b o e n hb hx => ?_, fun b o e n hx => ?_, un.there, fun b xs e => ?_, fun b o u e => ?_, fun b ps e => ?_⟩, fun b o e => ?_⟩
  · by_cases z : b ∈ A
    · obtain ⟨o', e1, _, e2⟩ := pin b z
      rw [e] at e1
      cases e1
      exact e2
    · exact un.keep b o e (by rw [pinA_out z]; exact n) hb hx
  · by_cases z : b ∈ A
    · obtain ⟨o', e1, _, e2⟩ := pin b z
      rw [e] at e1
      cases e1
      exact ⟨o.slots, e2⟩
    · exact un.slot b o e (by rw [pinA_out z]; exact n) hb hx
  · by_cases z : b ∈ A
    · exact unA_in z
    · rw [unA_out z]
      exact un.free b o e (by rw [pinA_out z]; exact n) hx
  · have z := out b _ e
    rw [unA_out z]
    exact un.tups b xs (by rw [pinA_out z]; exact e)
  · have z := out b _ e
    rw [unA_out z]
    exact un.frzs b o u (by rw [pinA_out z]; exact e)
  · have z := out b _ e
    rw [unA_out z]
    exact un.tbls b ps (by rw [pinA_out z]; exact e)
  · by_cases z : b ∈ A
    · rw [unA_in z] at e
      cases e
    · rw [unA_out z] at e
      have nf : ∀ d x, H' d = some x → (∀ o u, x ≠ .frz o u) → d ∉ A := fun d x q n z => by
        obtain ⟨o', _, e1, _⟩ := pin d z
        rw [q] at e1
        exact n _ _ (Option.some.inj e1)
      exact (ok b o e).stay (fun d v _ q => q) (fun d q => by rw [unA_out (nf d _ q (fun _ _ z => nomatch z))]; exact q) (fun d xs q => by rw [unA_out (nf d _ q (fun _ _ z => nomatch z))]; exact q)
/-- at a frame's end its cells may be told of -/
theorem un_end {H0 : Hp} {h0 : Heap} (hA : ∀ b ∈ A, H b = none ∧ (∃ o, h.get? b = some o) ∧ h0.get? b = none) (un : Un fs [] H0 H h0 h) : Un fs [] H0 (pinA A h H) h0 h := by
  have out : ∀ d x, H d = some x → d ∉ A := fun d x q z => by rw [(hA d z).1] at q; cases q
  refine ⟨un.keep, un.slot, fun b o e n hx => ?_, un.there, fun b xs e => ?_, fun b o u e => ?_, fun b ps e => ?_⟩
  · have z : b ∉ A := fun z => by rw [(hA b z).2.2] at e; cases e
    rw [pinA_out z]
    exact un.free b o e n hx
  · have q := un.tups b xs e
    rw [pinA_out (out b _ q)]
    exact q
  · have q := un.frzs b o u e
    rw [pinA_out (out b _ q)]
    exact q
  · obtain ⟨more, q⟩ := un.tbls b ps e
    exact ⟨more, by rw [pinA_out (out b _ q)]; exact q⟩
/-- an error behind a call without the pins: they are put on again -/
theorem cx_re {outer : List Env} {s s' : Shared} {E : XK} {u : Value} (hA : ∀ b ∈ A, b ∉ frs outer ∧ ∃ o v, H b = some (.frz o oT) ∧ o.data = .cell v ∧ s.heap.get? b = some o) (c : L2.CX Pg w outer (unA A H) s (fun cls d H' => E cls d (reA A H H')) u s') : L2.CX Pg w outer H s E u s' := by
  obtain ⟨a, B, H', cls, d, rfl, fl, ok, ub, na, os, ag, hE⟩ := c
  have pin : ∀ b ∈ A, ∃ o v, H b = some (.frz o oT) ∧ o.data = .cell v ∧ B.get? b = some o ∧ H' b = none := fun b hb => by
    obtain ⟨h1, o, v, h2, h3, h4⟩ := hA b hb
    exact ⟨o, v, h2, h3, ub.keep b o h4 (unA_in hb) h1, ub.free b o h4 (unA_in hb)⟩
  have out : ∀ d x, H' d = some x → d ∉ A := fun d x q z => by
    obtain ⟨_, _, _, _, _, e⟩ := pin d z
    rw [q] at e
    cases e
  have nin : ∀ d, H d = none → d ∉ A := fun d q z => by
    obtain ⟨_, _, e, _⟩ := pin d z
    rw [q] at e
    cases e
  have nfr : ∀ d x, H d = some x → (∀ o u, x ≠ .frz o u) → d ∉ A := fun d x q n z => by
    obtain ⟨_, _, e, _⟩ := pin d z
    rw [q] at e
    exact n _ _ (Option.some.inj e)
  have naA : a ∉ A := fun z => by
    obtain ⟨o, v, _, e2, e3, _⟩ := pin a z
    obtain ⟨oe, vs, he, _, hd⟩ := fl.there
    rw [fl.1 a o e3] at he
    cases he
    rw [e2] at hd
    cases hd
  refine ⟨a, B, reA A H H', cls, d, rfl, fl, fun b o e => ?_, ⟨fun b o e n hb => ?_, ub.slot, fun b o e n => ?_, ub.there, fun b xs e => ?_, fun b o xs e => ?_, fun b ps e => ?_⟩, by rw [reA_out naA]; exact na, os, ag, hE⟩
  · by_cases z : b ∈ A
    · obtain ⟨ob, v, e1, _, e3, _⟩ := pin b z
      rw [reA_in z, e1] at e
      cases e
      exact okT e3
    · rw [reA_out z] at e
      exact (ok b o e).stay (fun d v _ q => q) (fun d q => by rw [reA_out (out d _ q)]; exact q) (fun d xs q => by rw [reA_out (out d _ q)]; exact q)
  · exact ub.keep b o e (by rw [unA_out (nin b n)]; exact n) hb
  · rw [reA_out (nin b n)]
    exact ub.free b o e (by rw [unA_out (nin b n)]; exact n)
  · have z := nfr b _ e (fun _ _ z => nomatch z)
    rw [reA_out z]
    exact ub.tups b xs (by rw [unA_out z]; exact e)
  · by_cases z : b ∈ A
    · rw [reA_in z]
      exact e
    · rw [reA_out z]
      exact ub.frzs b o xs (by rw [unA_out z]; exact e)
  · have z := nfr b _ e (fun _ _ z => nomatch z)
    rw [reA_out z]
    exact ub.tbls b ps (by rw [unA_out z]; exact e)
end
mutual
theorem DP.unpin {K : PySem.W.Frag} {H : Hp} {A : List Addr} (hA : ∀ b ∈ A, K.lookup b = none ∧ ∃ o, H b = some (.frz o oT)) : ∀ (d : PyData) (v : V), DP K H d v → DP K (unA A H) d v
  | .none, _, h => h
  | .bool _, _, h => h
  | .int _, _, h => h
  | .str _, _, h => h
  | .list ds, _, ⟨a, xs, h1, h2, h3⟩ => ⟨a, xs, h1, by
      rw [unA_out (fun z => by obtain ⟨_, o, e⟩ := hA a z; rw [h2] at e; cases e)]
      exact h2, DPs.unpin hA ds xs h3⟩
  | .tuple ds, _, ⟨a, xs, h1, h2, h3⟩ => ⟨a, xs, h1, by
      have na : a ∉ A := fun z => by
        obtain ⟨k, o, e⟩ := hA a z
        rcases h2.sq with (q | ⟨o', q⟩) | q
        · rw [q] at e; cases e
        · rw [q] at e; cases e
        · obtain ⟨_, _, _, q, _⟩ := q
          rw [k] at q; cases q
      refine ⟨?_, fun z => ?_⟩
      · rcases h2.sq with (q | ⟨o', q⟩) | q
        · exact .inl (.inl (by rw [unA_out na]; exact q))
        · exact .inl (.inr ⟨o', by rw [unA_out na]; exact q⟩)
        · exact .inr q
      · rcases h2.nd z with ⟨o, u, q, c⟩ | q
        · exact .inl ⟨o, u, by rw [unA_out na]; exact q, c⟩
        · exact .inr q, DPs.unpin hA ds xs h3⟩
  | .dict _, _, h => h.elim
theorem DPs.unpin {K : PySem.W.Frag} {H : Hp} {A : List Addr} (hA : ∀ b ∈ A, K.lookup b = none ∧ ∃ o, H b = some (.frz o oT)) : ∀ (ds : List PyData) (vs : List V), DPs K H ds vs → DPs K (unA A H) ds vs
  | [], _, h => h
  | d :: ds, _, ⟨v, r, h1, h2, h3⟩ => ⟨v, r, h1, DP.unpin hA d v h2, DPs.unpin hA ds r h3⟩
end

/-! ### a lambda is made -/
section
variable {X : Cx} {pins : List (Addr × Obj)} {σ : L2.St} {H : Hp} {s : Shared}
/-- which object stands at f -/
def LamAt (q : Str) (cells : List (Str × Addr)) (H : Hp) (f : Addr) (body : Expr) (scope : Scope) : Prop :=
  ∃ (pm ctv : Value) (c : Addr), H f = some (.frz (PySem.W.kla_obj "<lambda>" q par0 body scope (cloFrom cells scope.names []) pm c ctv) oT) ∧ H c = some (LamX.CodeO c q)
theorem LamAt.mono {q : Str} {cells : List (Str × Addr)} {H' : Hp} {f : Addr} {body : Expr} {scope : Scope} (e : LamX.ExtN H H') (h : LamAt q cells H f body scope) : LamAt q cells H' f body scope := by
  obtain ⟨pm, ctv, c, h1, h2⟩ := h
  exact ⟨pm, ctv, c, e _ _ h1 (fun _ z => nomatch z), e _ _ h2 (fun _ => LamX.codeO_ne _)⟩
/-- the tables that are known: one for each maker -/
structure TabsOk (T : List (Addr × Str)) (P : Addr) (q : Str) : Prop where
  mem : (P, q) ∈ T
  one : ∀ p ∈ T, p.1 = P → p.2 = q
theorem lam_new {T : List (Addr × Str)} {c P : Addr} {body : Expr} {scope : Scope} {pos : Pos} {E : Value → Shared → Prop} {Q : Value → Shared → Prop} (I : Inv X pins σ H s) (TB : LamX.TabB X.base X.mg c P) (hcode : X.env.code = .ref c)
    (tk : TabsOk T P (X.env.qual ++ "<lambda>")) (hT : LamX.Tabs T H) (hfree : ∀ y ∈ scope.names, y.2 = .free → ∃ c, X.env.cells.lookup y.1 = some c)
    (h : ∀ (f : Addr) (H1 : Hp) (s' : Shared), Inv X pins σ H1 s' → LamX.ExtN H H1 → (∀ b, H1 b = none → H b = none) → LamX.Tabs T H1 → H f = none → LamAt (X.env.qual ++ "<lambda>") X.env.cells H1 f body scope → Q (.ref f) s') :
    wpAny (model X.prog X.w) X.A (eval (.Lambda par0 body scope pos) X.env) Q E s := by
  obtain ⟨tab, eP, trip, known⟩ := hT _ tk.mem
  refine PySem.W.kla_eval rfl ?_
  have gP : s.heap.get? P = some { cls := .none, data := .fields tab } := I.hok P _ eP
  -- the function's own object, laid behind all the rest
  have fin : ∀ (H1 : Hp) (h' : Heap) (n : Nat) (c' : Addr) (ctv : Value), Inv X pins σ H1 { s with heap := h', toks := n } → s.heap.objs.size ≤ h'.objs.size → LamX.ExtN H H1 → (∀ b, H1 b = none → H b = none) → LamX.Tabs T H1 → H1 c' = some (LamX.CodeO c' (X.env.qual ++ "<lambda>")) →
      Q (.ref h'.objs.size) { s with heap := h'.push (PySem.W.kla_obj "<lambda>" (X.env.qual ++ "<lambda>") par0 body scope (cloFrom X.env.cells scope.names []) ((X.mg "__name__").getD .none) c' ctv), toks := n } := fun H1 h' n c' ctv I1 sz eN nn T1 hc => by
    have nf : H1 h'.objs.size = none := I1.hok.fresh (Nat.le_refl _)
    have keepP : ∀ (b : Addr) (ob : Obj), h'.get? b = some ob → (h'.push (PySem.W.kla_obj "<lambda>" (X.env.qual ++ "<lambda>") par0 body scope (cloFrom X.env.cells scope.names []) ((X.mg "__name__").getD .none) c' ctv)).get? b = some ob := fun b ob q => Heap.get?_push_of_some _ q
    have su : ∀ b x, H1 b = some x → upd H1 h'.objs.size (.frz (PySem.W.kla_obj "<lambda>" (X.env.qual ++ "<lambda>") par0 body scope (cloFrom X.env.cells scope.names []) ((X.mg "__name__").getD .none) c' ctv) oT) b = some x := fun b x q => by rw [upd_ne (ne_of_none q nf)]; exact q
    refine h h'.objs.size _ _ (I1.laid (t' := n) (o := .frz (PySem.W.kla_obj "<lambda>" (X.env.qual ++ "<lambda>") par0 body scope (cloFrom X.env.cells scope.names []) ((X.mg "__name__").getD .none) c' ctv) oT) keepP (Nat.le_refl _) (okT (Heap.get?_push_size _ rfl))) (eN.trans (LamX.ExtN.of su)) (fun b q => nn b (by
      by_cases hb : b = h'.objs.size
      · rw [hb]; exact nf
      · rw [upd_ne hb] at q; exact q)) (T1.ext su) (I.hok.fresh sz) ⟨_, ctv, c', upd_same, su _ _ hc⟩
  cases among : codeAmong pos tab.toList with
  | some cv =>
    obtain ⟨c', rfl, hc'⟩ := known pos cv among
    refine PySem.W.kla_makeFunctionHit (mg := X.mg) (c := c) (P := P) (ps := tab) (closure_ok hfree) I.ok.glob (I.mod.glob.keeps I.bk) hcode (TB.code.keeps I.bk) gP trip among (TB.bm.keeps I.bk) fun ctv h' n keepS sz => ?_
    exact fin H h' n c' ctv (I.kept keepS) sz (LamX.ExtN.refl H) (fun _ q => q) hT hc'
  | none =>
    refine PySem.W.kla_makeFunction (mg := X.mg) (c := c) (P := P) (ps := tab) (closure_ok hfree) I.ok.glob (I.mod.glob.keeps I.bk) hcode (TB.code.keeps I.bk) gP trip among TB.gP (TB.bm.keeps I.bk) fun c' ctv h' n ext lo hi rcd tb => ?_
    obtain ⟨c2, oc, fl, t, e2, g1, g2, g3⟩ := rcd
    cases e2
    have nc : H c' = none := I.hok.fresh lo
    have eT : (tab ++ #[rawInt pos.line, rawInt pos.col, .ref c']).toList = tab.toList ++ [rawInt pos.line, rawInt pos.col, .ref c'] := by simp
    have eN : LamX.ExtN H (upd (upd H P (.tbl (tab ++ #[rawInt pos.line, rawInt pos.col, .ref c']))) c' (LamX.CodeO c' (X.env.qual ++ "<lambda>"))) := fun b x q nt => by
      have b1 : b ≠ c' := ne_of_none q nc
      have b2 : b ≠ P := fun z => by subst z; rw [eP] at q; exact nt tab (Option.some.inj q).symm
      rw [upd_ne b1, upd_ne b2]
      exact q
    refine fin _ h' n c' ctv (LamX.inv_table (t' := n) I eP ext tb lo ⟨oc, fl, t, g1, g2, g3⟩) (Nat.le_trans lo (Nat.le_of_lt hi)) eN (fun b q => ?_) (fun p hp => ?_) upd_same
    · by_cases b1 : b = c'
      · rw [b1]; exact nc
      · rw [upd_ne b1] at q
        by_cases b2 : b = P
        · rw [b2, upd_same] at q; cases q
        · rw [upd_ne b2] at q; exact q
    by_cases hb : p.1 = P
    · rw [tk.one p hp hb, hb]
      refine ⟨_, by rw [upd_ne (ne_of_none eP nc), upd_same], by rw [eT]; exact PySem.TriplesOk_snoc _ _ _ _ trip, fun p' cv hcv => ?_⟩
      rw [eT] at hcv
      rcases LamX.among_app _ trip hcv with z | rfl
      · obtain ⟨c0, k1, k2⟩ := known p' cv z
        exact ⟨c0, k1, eN _ _ k2 LamX.codeO_ne⟩
      · exact ⟨c', rfl, upd_same⟩
    · obtain ⟨tab2, a1, a2, a3⟩ := hT p hp
      refine ⟨tab2, by rw [upd_ne (ne_of_none a1 nc), upd_ne hb]; exact a1, a2, fun p' cv hcv => ?_⟩
      obtain ⟨c0, k1, k2⟩ := a3 p' cv hcv
      exact ⟨c0, k1, eN _ _ k2 LamX.codeO_ne⟩
end
end PD
/-! Part R: lists of lambdas, and a def that is handed such a list. -/
namespace PD
open PySem PySem.Spec PyProof.Rows L2

/-! ### what a lambda's text says -/
def okY (y : Str) : Bool := !(y == ("__debug__" : Str)) && !(y == ("__classdict__" : Str))
def c0B : PyData → Expr → Bool
  | .none, .Constant .none _ _ => true
  | .bool b, .Constant (.bool c) _ _ => b == c
  | .int i, .Constant (.int j) _ _ => decide (i = j)
  | .int i, .UnaryOp .USub (.Constant (.int j) _ _) _ => decide (i = -j)
  | .str x, .Constant (.str y) _ _ => decide (x = y)
  | _, _ => false
def c0sB : List PyData → List Expr → Bool
  | [], [] => true
  | d :: ds, e :: es => c0B d e && c0sB ds es
  | _, _ => false
def c1B (d : PyData) (e : Expr) : Bool := match e with
  | .Tuple es _ _ => (match d with
    | .tuple ds => decide (es.length ≤ 1000) && c0sB ds es
    | _ => false)
  | e => c0B d e
theorem c0_of {d : PyData} {e : Expr} (h : c0B d e = true) : cst0 e = some d := by
  unfold c0B at h
  split at h <;> first | (simp only [beq_iff_eq, decide_eq_true_eq] at h; subst h; rfl) | rfl | cases h
theorem c0s_of : ∀ {ds : List PyData} {es : List Expr}, c0sB ds es = true → cst0s es = some ds
  | [], [], _ => rfl
  | d :: ds, e :: es, h => by
    rw [c0sB, Bool.and_eq_true] at h
    rw [cst0s, c0_of h.1, c0s_of h.2]
    rfl
  | [], _ :: _, h => nomatch h
  | _ :: _, [], h => nomatch h
theorem c1_of {d : PyData} {e : Expr} (h : c1B d e = true) : cst1 e = some d := by
  unfold c1B at h
  split at h
  · split at h
    · rw [Bool.and_eq_true, decide_eq_true_eq] at h
      rw [cst1, if_pos h.1, c0s_of h.2]
      rfl
    · cases h
  · rename_i e hn
    have q := c0_of h
    unfold cst1
    split
    · exact (hn _ _ _ rfl).elim
    · exact q
def argB (N : List Str) (scope : Scope) : Sum Nat PyData → Expr → Bool
  | .inl j, .Name y _ => decide (N[j]? = some y) && okY y && decide (scope.names.lookup y = some .free)
  | .inl _, _ => false
  | .inr d, e => c1B d e
def argsB (N : List Str) (scope : Scope) : List (Sum Nat PyData) → List Expr → Bool
  | [], [] => true
  | a :: as, e :: es => argB N scope a e && argsB N scope as es
  | _, _ => false
def lamB (N : List Str) (sc : Scope) (l : Lam) (body : Expr) (scope : Scope) : Bool := LamX.lamSB sc scope && (match body with
  | .Call (.Name x _) args [] _ => decide (x = l.1) && !(x == ("__debug__" : Str)) && decide (scope.names.lookup x = some .globalImplicit) && !args.isEmpty && argsB N scope l.2 args
  | _ => false)
def LamsAt (N : List Str) (sc : Scope) (q : Str) (cells : List (Str × Addr)) (H : Hp) : List Lam → List V → Prop
  | [], vs => vs = []
  | l :: ls, vs => ∃ f r body scope, vs = .ref f :: r ∧ lamB N sc l body scope = true ∧ LamAt q cells H f body scope ∧ LamsAt N sc q cells H ls r
theorem LamsAt.len {N : List Str} {sc : Scope} {q : Str} {cells : List (Str × Addr)} {H : Hp} : ∀ {ls : List Lam} {vs : List V}, LamsAt N sc q cells H ls vs → vs.length = ls.length
  | [], _, h => by cases h; rfl
  | _ :: _, _, ⟨_, _, _, _, h1, _, _, h4⟩ => by subst h1; simp [h4.len]
/-- a frame's cells -/
def cellsA (cl : List (Str × Addr)) : List Addr := (cl.map (·.1)).filterMap fun y => cl.lookup y
theorem cellsA_of {cl : List (Str × Addr)} {b : Addr} (h : b ∈ cellsA cl) : ∃ y, cl.lookup y = some b := by
  obtain ⟨y, _, e⟩ := List.mem_filterMap.mp h
  exact ⟨y, e⟩
theorem cellsA_mem {cl : List (Str × Addr)} {y : Str} {b : Addr} (h : cl.lookup y = some b) : b ∈ cellsA cl :=
  List.mem_filterMap.mpr ⟨y, List.mem_map.mpr ⟨(y, b), PySem.mem_of_lookup h, rfl⟩, h⟩
section
variable {X : Cx} {pins : List (Addr × Obj)} {σ : L2.St} {H : Hp} {s : Shared}
theorem pinOk (I : Inv X pins σ H s) : ∀ b ∈ cellsA X.env.cells, H b = none ∧ ∃ o, s.heap.get? b = some o := fun b hb => by
  obtain ⟨y, e⟩ := cellsA_of hb
  obtain ⟨v, o, ho, _⟩ := I.cell y b e
  exact ⟨I.freeC y b e, o, ho⟩
/-- all the cells pinned: the lambda is a closure over data -/
theorem clo_at {l : Lam} {q : Str} {f : Addr} {body : Expr} {scope : Scope} {ds : List PyData} {g : Nat → Option PyData} (I : Inv X pins σ H s) (hB : lamB X.N X.env.scope l body scope = true) (hL : LamAt q X.env.cells H f body scope)
    (hg : ∀ j d, g j = some d → ∃ w, σ[j]? = some (some w) ∧ DP X.K H d w) (ha : argsOf g l.2 = some ds) : CloP X.K (pinA (cellsA X.env.cells) s.heap H) l.1 ds f := by
  have hA := pinOk I
  have su : Same H (pinA (cellsA X.env.cells) s.heap H) := same_pin fun b hb => (hA b hb).1
  obtain ⟨pm, ctv, c', h1, h2⟩ := hL
  unfold lamB at hB
  rw [Bool.and_eq_true] at hB
  have L := LamX.lamS_by hB.1
  have hB2 := hB.2
  split at hB2
  · rename_i x p args p2
    simp only [Bool.and_eq_true, decide_eq_true_eq, Bool.not_eq_true'] at hB2
    obtain ⟨⟨⟨⟨rfl, hd⟩, hx⟩, hne⟩, hargs⟩ := hB2
    have hfree := L.has I.ok
    have cm : ∀ {y : Str} {c : Addr}, (cloFrom X.env.cells scope.names []).lookup y = some c → X.env.cells.lookup y = some c := fun {y c} e => by
      rcases cloFrom_mem (PySem.mem_of_lookup e) with hm | ⟨k1, k2⟩
      · cases hm
      · obtain ⟨c1, hc⟩ := hfree _ k1 rfl
        have hc : X.env.cells.lookup y = some c1 := hc
        have e2 : c = c1 := by rw [k2, hc] <;> rfl
        rw [e2]
        exact hc
    have look : ∀ {y}, scope.names.lookup y = some .free → ∃ c, (cloFrom X.env.cells scope.names []).lookup y = some c := fun {y} hl =>
      mem_lookup (cloFrom_has (cells := X.env.cells) (acc := []) (PySem.mem_of_lookup hl))
    refine ⟨q, p, p2, args, scope, _, pm, ctv, c', su _ _ h1, su _ _ h2, ⟨L.kind, L.co, L.gen, L.own, hx, hd, fun z => by subst z; cases hne⟩, ⟨fun y hy => look hy, fun y z c e1 e2 => I.ok.inj y z c (cm e1) (cm e2), fun y c e => ?_⟩, ?_⟩
    · obtain ⟨v, o, ho, hv⟩ := I.cell y c (cm e)
      exact ⟨o, v, pinA_in (cellsA_mem (cm e)) ho, hv⟩
    · have all : ∀ (as : List (Sum Nat PyData)) (es : List Expr) (ds : List PyData), argsB X.N scope as es = true → argsOf g as = some ds → ArgsP X.K (pinA (cellsA X.env.cells) s.heap H) scope (cloFrom X.env.cells scope.names []) es ds := by
        intro as
        induction as with
        | nil =>
          intro es ds k1 k2
          cases es with
          | nil => cases k2; rfl
          | cons e es => cases k1
        | cons a as ih =>
          intro es ds k1 k2
          cases es with
          | nil => cases k1
          | cons e es =>
            rw [argsB, Bool.and_eq_true] at k1
            cases qa : argOf g a with
            | none => simp [argsOf, qa] at k2
            | some d =>
              cases qr : argsOf g as with
              | none => simp [argsOf, qa, qr] at k2
              | some r =>
                simp [argsOf, qa, qr] at k2
                subst k2
                refine ⟨d, r, rfl, ?_, ih es r k1.2 qr⟩
                cases a with
                | inr d' =>
                  cases qa
                  exact .inr (c1_of k1.1)
                | inl j =>
                  have k := k1.1
                  unfold argB at k
                  split at k
                  · rename_i j' y py ej
                    cases ej
                    simp only [Bool.and_eq_true, decide_eq_true_eq, okY, Bool.not_eq_true'] at k
                    obtain ⟨⟨kN, kd, kc⟩, kf⟩ := k
                    obtain ⟨w, hw, dw⟩ := hg _ d qa
                    obtain ⟨m, hn, hl⟩ := I.loc
                    have fr := L.free _ (PySem.mem_of_lookup kf) rfl
                    have hvis : Vis X.env.scope y := fr.elim (fun k => .inr (.inl k)) (fun k => .inr (.inr k))
                    obtain ⟨u, r, lk⟩ := hl _ y w kN hw hvis
                    rcases lk with ⟨k', _⟩ | ⟨_, c, ec, o, ho, hdv⟩
                    · have k' : X.env.scope.names.lookup y = some .local := k'
                      rcases fr with k2 | k2 <;> rw [show X.env.scope.names.lookup y = _ from k2] at k' <;> cases k'
                    · obtain ⟨c2, e2⟩ := look kf
                      have := cm e2
                      rw [ec] at this
                      cases this
                      exact .inl ⟨y, py, c, o, u, w, rfl, kd, kc, kf, e2, pinA_in (cellsA_mem ec) ho, hdv, r, DP.mono su _ _ dw⟩
                  · cases k
                  · rename_i z
                    cases z
      exact all _ _ _ hargs ha
  · cases hB2
theorem ups_clos {q : Str} {g : Nat → Option PyData} (I : Inv X pins σ H s) (hg : ∀ j d, g j = some d → ∃ w, σ[j]? = some (some w) ∧ DP X.K H d w) : ∀ {ls : List Lam} {vs : List V} {cs : List U}, LamsAt X.N X.env.scope q X.env.cells H ls vs → closOf g ls = some cs → UPs X.K E0x (pinA (cellsA X.env.cells) s.heap H) [] cs vs
  | [], _, _, h, e => by cases e; exact h
  | l :: ls, _, cs, ⟨f, r, body, scope, h1, h2, h3, h4⟩, e => by
    cases qa : argsOf g l.2 with
    | none => simp [closOf, qa] at e
    | some ds =>
      cases qr : closOf g ls with
      | none => simp [closOf, qa, qr] at e
      | some cs' =>
        simp [closOf, qa, qr] at e
        subst e
        exact ⟨.ref f, r, h1, ⟨f, rfl, clo_at I h2 h3 hg qa⟩, ups_clos I hg h4 qr⟩
end

/-! ### statements, and what stands behind them -/
def Seg (X : Cx) (pre : List Stmt) (t : (L2.St → Hp → Prop) → L2.St → Hp → Prop) : Prop :=
  ∀ (rest : List Stmt) (pins : List (Addr × Obj)) (s : Shared) (σ : L2.St) (H : Hp) (N : L2.St → Hp → Prop) (Post : Flow → Shared → Prop), Inv X pins σ H s → t N σ H →
    (∀ s' σ' H', Inv X pins σ' H' s' → N σ' H' → wpAny (model X.prog X.w) X.A (execs rest X.env) Post X.xe s') → wpAny (model X.prog X.w) X.A (execs (pre ++ rest) X.env) Post X.xe s
section
variable {X : Cx}
theorem seg_nil : Seg X [] (fun N σ H => N σ H) := fun _ _ s σ H _ _ I h k => k s σ H I h
theorem seg_cons {st : Stmt} {pre : List Stmt} {t : TS} {u : (L2.St → Hp → Prop) → L2.St → Hp → Prop} (h1 : PS X st t) (h2 : Seg X pre u) : Seg X (st :: pre) (fun N σ H => t { nx := u N, rt := fun _ _ => False } σ H) := by
  intro rest pins s σ H N Post I h k
  refine wpAny_execs_cons (thn (h1.run pins s σ H _ I h) fun f s1 q => ?_)
  cases f with
  | next =>
    obtain ⟨σ1, H1, I1, q⟩ := q
    exact h2 rest pins s1 σ1 H1 N Post I1 q k
  | ret v =>
    obtain ⟨_, _, _, _, _, q⟩ := q
    exact q.elim
  | brk =>
    obtain ⟨_, _, _, q⟩ := q
    exact q.elim
  | cont =>
    obtain ⟨_, _, _, q⟩ := q
    exact q.elim
theorem pss_seg {pre rest : List Stmt} {t : (L2.St → Hp → Prop) → L2.St → Hp → Prop} {u : TS} (h1 : Seg X pre t) (h2 : PSs X rest u) : PSs X (pre ++ rest) (fun D σ H => t (u D) σ H) :=
  ⟨fun pins s σ H D I h => h1 rest pins s σ H _ _ I h fun s' σ' H' I' q => h2.run pins s' σ' H' D I' q⟩

/-! ### the list is made -/
def tLam (P : Addr) (q : Str) (cells : List (Str × Addr)) (body : Expr) (scope : Scope) : TE := fun _ H Q => ∃ T, TabsOk T P q ∧ LamX.Tabs T H ∧ ∀ f H1, LamX.ExtN H H1 → (∀ b, H1 b = none → H b = none) → LamX.Tabs T H1 → H f = none → LamAt q cells H1 f body scope → Q (.ref f) H1
/-- the frame that makes lambdas: its code object, its table -/
structure Mkr (X : Cx) (f : Str) : Prop where
  tb : LamX.TabB X.base X.mg (He.cT X.K (f, none)).1 (tabA X.K f)
  code : X.env.code = .ref (He.cT X.K (f, none)).1
  qual : X.env.qual = f ++ ".<locals>."
theorem Mkr.q {f : Str} (M : Mkr X f) : X.env.qual ++ "<lambda>" = lamQ f := by rw [M.qual]; rfl
theorem pe_lam {f : Str} {l : Lam} {body : Expr} {scope : Scope} {pos : Pos} (M : Mkr X f) (hB : lamB X.N X.env.scope l body scope = true) : PE X (.Lambda par0 body scope pos) (tLam (tabA X.K f) (lamQ f) X.env.cells body scope) := by
  refine ⟨fun pins s σ H Q I h => ?_⟩
  obtain ⟨T, tk, hT, h⟩ := h
  unfold lamB at hB
  rw [Bool.and_eq_true] at hB
  rw [← M.q] at tk h
  exact lam_new I M.tb M.code tk hT ((LamX.lamS_by hB.1).has I.ok) fun f H1 s' I1 eN nn T1 hf la => ⟨.ref f, H1, I1, rfl, h f H1 eN nn T1 hf la⟩
/-- all but L and the tables stays -/
def ExtB (L : Addr) (H H' : Hp) : Prop := ∀ b o, b ≠ L → H b = some o → (∀ ps, o ≠ .tbl ps) → H' b = some o
def appB (N : List Str) (sc : Scope) (x : Str) (l : Lam) (st : Stmt) : Bool := match st with
  | .Expr (.Call (.Attribute (.Name y _) m ap) [.Lambda ⟨[], [], none, [], [], none, []⟩ body scope _] [] p) _ => decide (m = "append") && decide (y = x) && (ap.endLine == p.line) && lamB N sc l body scope
  | _ => false
def mApps (N : List Str) (sc : Scope) (x : Str) : List Lam → List Stmt → Bool
  | [], [] => true
  | l :: ls, st :: sts => appB N sc x l st && mApps N sc x ls sts
  | _, _ => false
def tApps (X : Cx) (f : Str) (i : Nat) (ls : List Lam) (N : L2.St → Hp → Prop) (σ : L2.St) (H : Hp) : Prop :=
  ∃ L vs T, σ[i]? = some (some (.ref L)) ∧ H L = some (.lst vs) ∧ vs.length + ls.length ≤ sizeLine ∧ TabsOk T (tabA X.K f) (lamQ f) ∧ LamX.Tabs T H ∧
    ∀ H1 ws, ExtB L H H1 → LamX.Tabs T H1 → H1 L = some (.lst (vs ++ ws)) → LamsAt X.N X.env.scope (lamQ f) X.env.cells H1 ls ws → N σ H1
theorem seg_apps {f : Str} {i : Nat} {x : Str} (M : Mkr X f) (hN : X.N[i]? = some x) (hv : Vis X.env.scope x) (hd : (x == ("__debug__" : Str)) = false) (hcd : (x == ("__classdict__" : Str)) = false) :
    ∀ (ls : List Lam) (sts : List Stmt), mApps X.N X.env.scope x ls sts = true → Seg X sts (tApps X f i ls)
  | [], [], _ => fun rest pins s σ H N Post I h k => by
    obtain ⟨L, vs, T, h1, h2, h3, h4, h5, h6⟩ := h
    exact k s σ H I (h6 H [] (fun _ _ _ e _ => e) h5 (by rw [List.append_nil]; exact h2) rfl)
  | [], _ :: _, h => nomatch h
  | _ :: _, [], h => nomatch h
  | l :: ls, st :: sts, h => by
    rw [mApps, Bool.and_eq_true] at h
    have ih := seg_apps M hN hv hd hcd ls sts h.2
    have h1 := h.1
    unfold appB at h1
    split at h1
    · rename_i y yp m ap body scope lp p ep
      simp only [Bool.and_eq_true, decide_eq_true_eq] at h1
      obtain ⟨⟨⟨rfl, rfl⟩, hl⟩, hB⟩ := h1
      intro rest pins s σ H N Post I h k
      have hns : [Expr.Lambda par0 body scope lp].all ns = true := rfl
      refine seg_cons (ps_expr (pos := ep) (pe_bm PySem.F.plainAttrs_list PySem.F.slot_list_append PySem.F.type_list_append mt_append (pe_var (pos := yp) hN hv hd hcd) (pa_cons (pe_lam (pos := lp) M hB) pa_nil (star_cons rfl)) (base_ok rfl) (few_ok hns (by simp)) hl (star_cons rfl) rfl) (sw_nlc rfl)) ih rest pins s σ H N Post I ?_ k
      obtain ⟨L, vs, T, g1, g2, g3, g4, g5, g6⟩ := h
      simp only [List.length_cons] at g3
      refine ⟨_, g1, .inl ⟨rfl, vs, SqL.of g2⟩, T, g4, g5, fun a H1 eN nn T1 hf la => ?_⟩
      have gL := eN _ _ g2 (fun _ z => nomatch z)
      have fL : a ≠ L := fun z => by rw [z, g2] at hf; cases hf
      refine ⟨L, vs, .ref a, rfl, rfl, gL, by omega, ?_⟩
      have keepU : ∀ b o, b ≠ L → H1 b = some o → upd H1 L (.lst (vs ++ [.ref a])) b = some o := fun b o hb e => by rw [upd_ne hb]; exact e
      have la2 : LamAt (lamQ f) X.env.cells (upd H1 L (.lst (vs ++ [.ref a]))) a body scope := by
        obtain ⟨pm, ctv, c, a1, a2⟩ := la
        refine ⟨pm, ctv, c, keepU _ _ fL a1, keepU _ _ (fun z => ?_) a2⟩
        subst z
        rw [gL] at a2
        have a2 := Option.some.inj a2
        unfold LamX.CodeO at a2
        cases a2
      refine ⟨L, vs ++ [.ref a], T, g1, upd_same, by simp; omega, g4, fun p hp => tabS_upd (T1 p hp) gL (fun _ z => nomatch z) (fun _ z => nomatch z), fun H2 ws e2 T2 k2 l2 => ?_⟩
      have la3 : LamAt (lamQ f) X.env.cells H2 a body scope := by
        obtain ⟨pm, ctv, c, a1, a2⟩ := la2
        have cL : c ≠ L := fun z => by
          subst z
          rw [upd_same] at a2
          have a2 := Option.some.inj a2
          unfold LamX.CodeO at a2
          cases a2
        exact ⟨pm, ctv, c, e2 _ _ fL a1 (fun _ z => nomatch z), e2 _ _ cL a2 (fun _ => LamX.codeO_ne _)⟩
      exact g6 H2 (.ref a :: ws) (fun b o hb e nt => e2 b o hb (keepU b o hb (eN b o e nt)) nt) T2 (by rw [k2]; simp) ⟨a, ws, body, scope, rfl, hB, la3, l2⟩
    · cases h1
def headB (N : List Str) (sc : Scope) (x : Str) (l : Lam) (st : Stmt) : Bool := match st with
  | .Assign [.Name y _] (.List [.Lambda ⟨[], [], none, [], [], none, []⟩ body scope _] _) _ => decide (y = x) && lamB N sc l body scope
  | _ => false
def mBlk (N : List Str) (sc : Scope) (x : Str) : List Lam → List Stmt → Bool
  | l :: ls, st :: sts => headB N sc x l st && mApps N sc x ls sts
  | _, _ => false
def tBlk (X : Cx) (f : Str) (i : Nat) (ls : List Lam) (N : L2.St → Hp → Prop) (σ : L2.St) (H : Hp) : Prop :=
  ∃ T, TabsOk T (tabA X.K f) (lamQ f) ∧ LamX.Tabs T H ∧ ls.length ≤ sizeLine ∧
    ∀ L H1 ws, LamX.ExtN H H1 → LamX.Tabs T H1 → H1 L = some (.lst ws) → LamsAt X.N X.env.scope (lamQ f) X.env.cells H1 ls ws → i < σ.length → N (σ.set i (some (.ref L))) H1
theorem seg_blk {f : Str} {i : Nat} {x : Str} (M : Mkr X f) (hND : X.N.Nodup) (hS : Stor X i x) (hd : (x == ("__debug__" : Str)) = false) (hcd : (x == ("__classdict__" : Str)) = false) {ls : List Lam} {sts : List Stmt} (h : mBlk X.N X.env.scope x ls sts = true) : Seg X sts (tBlk X f i ls) := by
  have hv : Vis X.env.scope x := hS.2.1.elim .inl fun z => .inr (.inl z)
  cases ls with
  | nil => unfold mBlk at h; cases h
  | cons l ls =>
    cases sts with
    | nil => unfold mBlk at h; cases h
    | cons st sts =>
      rw [mBlk, Bool.and_eq_true] at h
      have ih := seg_apps M hS.1 hv hd hcd ls sts h.2
      have h1 := h.1
      unfold headB at h1
      split at h1
      · rename_i y yp body scope lp lp2 ep
        simp only [Bool.and_eq_true, decide_eq_true_eq] at h1
        obtain ⟨rfl, hB⟩ := h1
        intro rest pins s σ H N Post I h k
        refine seg_cons (ps_set (pos' := yp) (pos := ep) hND hS.1 hS.2.1 (pe_lst (pos := lp2) (pa_cons (pe_lam (pos := lp) M hB) pa_nil (star_cons rfl))) (sw_nlc rfl) hS.2.2) ih rest pins s σ H N Post I ?_ k
        obtain ⟨T, g1, g2, g3, g4⟩ := h
        simp only [List.length_cons] at g3
        refine ⟨T, g1, g2, fun a H1 eN nn T1 hf la => ⟨by show 1 ≤ sizeLine; omega, fun L hL => ?_⟩⟩
        have su : ∀ b o, H1 b = some o → upd H1 L (.lst [.ref a]) b = some o := fun b o e => by rw [upd_ne (ne_of_none e hL)]; exact e
        have hi : i < σ.length := by rw [I.len]; exact (List.getElem?_eq_some_iff.mp hS.1).1
        refine ⟨L, [.ref a], T, by rw [List.getElem?_set_self hi], upd_same, by simp; omega, g1, T1.ext su, fun H2 ws e2 T2 k2 l2 => ?_⟩
        have oL : H L = none := nn L hL
        have e3 : LamX.ExtN H H2 := fun b o e nt => e2 b o (ne_of_none e oL) (su b o (eN b o e nt)) nt
        obtain ⟨pm, ctv, c, a1, a2⟩ := la
        have fL : a ≠ L := ne_of_none a1 hL
        have cL : c ≠ L := ne_of_none a2 hL
        exact g4 L H2 _ e3 T2 k2 ⟨a, ws, body, scope, rfl, hB, ⟨pm, ctv, c, e2 _ _ fL (su _ _ a1) (fun _ z => nomatch z), e2 _ _ cL (su _ _ a2) (fun _ => LamX.codeO_ne _)⟩, l2⟩ hi
      · cases h1
end
end PD
/-! Part J: the texts over closures. -/
namespace PD
open PySem PySem.Spec PyProof.Rows L2

/-! ### all(..) over a list of closures: the frame's cells are pinned for the time of the call -/
section
variable {X : Cx} {ex : ExK} {W : WX}
def AllR (X : Cx) (fe : FE) (nm : Str) (σ : L2.St) (Q : VK) (vs : List V) (H1 : Hp) : Prop :=
  ∃ v b cs, vs = [v, .str nm] ∧ fe.m [.ll cs, .d (.str nm)] = .ok (.bool b) ∧ (∀ pins s, Inv X pins σ H1 s → UP X.K E0x (pinA (cellsA X.env.cells) s.heap H1) [] (.ll cs) v) ∧ ∀ H2, Same H1 H2 → Q (.bl b) H2
def tAll (X : Cx) (fe : FE) (nm : Str) (t1 : TE) : TE := fun σ H Q => t1 σ H fun v H1 => AllR X fe nm σ Q [v, .str nm] H1
theorem cells_above {pins : List (Addr × Obj)} {σ : L2.St} {H : Hp} {s : Shared} (I : Inv X pins σ H s) (hfn : ∀ x, X.fn x = true) : ∀ b ∈ cellsA X.env.cells, X.s_0.heap.objs.size ≤ b := fun b hb => by
  obtain ⟨y, e⟩ := cellsA_of hb
  exact I.ok.cab y b (hfn y) e
theorem cells_fr {pins : List (Addr × Obj)} {σ : L2.St} {H : Hp} {s : Shared} (I : Inv X pins σ H s) (hfn : ∀ x, X.fn x = true) : ∀ b ∈ cellsA X.env.cells, b ∉ frs X.stack := fun b hb z => by
  obtain ⟨y, e⟩ := cellsA_of hb
  rcases List.mem_cons.mp (I.stkSub b z) with z | z
  · exact I.cne y b e z
  · obtain ⟨_, o, ho, _⟩ := I.ok.funs.mem z
    exact absurd (Heap.lt_size ho) (Nat.not_lt.mpr (cells_above I hfn b hb))
theorem pe_allP {k : Nat} {fe : FE} {e1 : Expr} {t1 : TE} {nm : Str} {j : Nat} {p p2 pos : Pos} (G : Good X k fe) (hr : Room k X.A) (hg : Gl X fe.name) (hdb : (fe.name == ("__debug__" : Str)) = false) (hps : fe.ps.length = 2) (hfn : ∀ x, X.fn x = true) (h1 : PE X e1 t1) (hn : ns e1 = true) :
    PE X (.Call (.Name fe.name p) [e1, .Constant (.str nm) j p2] [] pos) (tAll X fe nm t1) := by
  obtain ⟨f, fd, hm, hk, hb, F⟩ := G
  refine ⟨fun pins s σ H Q I h => ?_⟩
  refine wpAny_Call_Name_kw (ld_glob I hg hm ?_ hdb)
  refine PySem.W.callWith_K (h₀ := X.base) I.ok.mod.kin hk (thn ((pa_cons h1 (pa_cons (pe_str (j := j) (pos := p2)) pa_nil) (star_cons hn)).run pos pins s σ H (AllR X fe nm σ Q) I h) fun us s1 ⟨vs, H1, I1, r, q⟩ => ⟨I1.kIn, ?_⟩) (star_cons hn) rfl
  obtain ⟨v, b, cs, rfl, hm1, hu, hQ⟩ := q
  have hA := pinOk I1
  have ab := cells_above I1 hfn
  have su : Same H1 (pinA (cellsA X.env.cells) s1.heap H1) := same_pin fun b hb => (hA b hb).1
  have e0 := I1.env0
  have e0P : Env0 X.prog X.w X.K X.mg X.base X.A X.stack s1 (pinA (cellsA X.env.cells) s1.heap H1) :=
    ⟨e0.frames, e0.mod, fun b o q => ⟨(e0.bs b o q).1, by
      rw [pinA_out (fun z => absurd (Nat.lt_of_lt_of_le (Heap.lt_size q) I1.ok.bsz) (Nat.not_lt.mpr (ab b z)))]
      exact (e0.bs b o q).2⟩, e0.bsz, e0.funs, fun b hb => by
      rw [pinA_out (fun z => cells_fr I1 hfn b z hb)]
      exact e0.frf b hb, hok_pin I1.hok hA, e0.bare⟩
  have hl : us.length = fe.ps.length := by rw [← r.length, hps]; rfl
  have bnd := hb s1 us I1.kIn (by rw [List.append_nil]; exact hl)
  rw [List.append_nil] at bnd
  have sp : spP X.K fe.ps.length fe.m [v, .str nm] (pinA (cellsA X.env.cells) s1.heap H1) (fun v' H' => Q v' (unA (cellsA X.env.cells) H')) (fun _ _ _ => False) := by
    refine ⟨by rw [hps]; rfl, [.ll cs, .d (.str nm)], _, Same.refl _, ⟨v, _, rfl, hu pins s1 I1, .str nm, [], rfl, rfl, rfl⟩, ?_⟩
    rw [hm1]
    intro v' H' H0' sm _ _ _ d
    cases (show v' = V.bl b from d)
    refine hQ _ fun c x e => ?_
    rw [unA_out (fun z => by rw [(hA c z).1] at e; cases e)]
    exact sm c x (su c x e)
  refine wpAny_call (codeAny_mono (F.run X.A X.stack s1 _ ⟨us, []⟩ us _ _ _ hr e0P bnd r sp) fun rr s' hq => ?_)
  cases rr with
  | error e =>
    obtain ⟨_, _, _, _, _, _, _, _, _, _, _, _, z⟩ := hq
    exact z.elim
  | ok fl =>
    cases fl with
    | ret u =>
      obtain ⟨v', H', os, bare, un, hok, rv, q⟩ := hq
      obtain ⟨un2, ok2⟩ := un_back hA un hok
      exact I1.after ⟨v', _, os, bare, un2, ok2, rv, q⟩
    | next => exact False.elim hq
    | brk => exact False.elim hq
    | cont => exact False.elim hq
end

/-! ### several tables -/
def tabsIn (K : PySem.W.Frag) (S : Store) : List (Addr × Str) := S.filterMap fun c => match c with
  | .tab g => some (tabA K g, lamQ g)
  | _ => none
section
variable {K : PySem.W.Frag} {ex : ExK} {HF H0 H H' : Hp} {al : List Addr} {S : Store} {f : Str}
theorem hasTab_at (h : hasTab f S = true) : ∃ n : Nat, S[n]? = some (.tab f) := by
  obtain ⟨c, hc, e⟩ := List.any_eq_true.mp h
  obtain ⟨n, hn, e2⟩ := List.getElem_of_mem hc
  cases c with
  | tab g => exact ⟨n, by rw [List.getElem?_eq_getElem hn, e2, of_decide_eq_true e]⟩
  | _ => cases e
theorem tabsIn_of {p : Addr × Str} (h : p ∈ tabsIn K S) : ∃ (n : Nat) (g : Str), S[n]? = some (.tab g) ∧ p = (tabA K g, lamQ g) := by
  obtain ⟨c, hc, e⟩ := List.mem_filterMap.mp h
  obtain ⟨n, hn, e2⟩ := List.getElem_of_mem hc
  cases c with
  | tab g => exact ⟨n, g, by rw [List.getElem?_eq_getElem hn, e2], (Option.some.inj e).symm⟩
  | _ => cases e
theorem tabsIn_mem {n : Nat} {g : Str} (h : S[n]? = some (.tab g)) : (tabA K g, lamQ g) ∈ tabsIn K S := List.mem_filterMap.mpr ⟨.tab g, List.mem_of_getElem? h, rfl⟩
theorem Rl.tab_at (R : Rl K ex HF H0 H al S) {n : Nat} {g : Str} (h : S[n]? = some (.tab g)) : al[n]? = some (tabA K g) ∧ LamX.TabS H (tabA K g) (lamQ g) ∧ NT HF ∧ NT H0 := by
  have hn : n < al.length := by rw [R.len]; exact (List.getElem?_eq_some_iff.mp h).1
  obtain ⟨k1, k2, k3, k4, k5⟩ := R.at_ n al[n] _ (List.getElem?_eq_getElem hn) h
  obtain ⟨k6, k7⟩ := k4
  refine ⟨by rw [List.getElem?_eq_getElem hn, k7], by rw [← k7]; exact k3, k6, k5⟩
theorem Rl.tabs_of (R : Rl K ex HF H0 H al S) : LamX.Tabs (tabsIn K S) H := fun p hp => by
  obtain ⟨n, g, h1, rfl⟩ := tabsIn_of hp
  exact (R.tab_at h1).2.1
theorem Rl.tabs_ok (R : Rl K ex HF H0 H al S) (h : hasTab f S = true) : TabsOk (tabsIn K S) (tabA K f) (lamQ f) := by
  obtain ⟨n, hn⟩ := hasTab_at h
  refine ⟨tabsIn_mem hn, fun p hp e => ?_⟩
  obtain ⟨m, g, hm, rfl⟩ := tabsIn_of hp
  have e : tabA K g = tabA K f := e
  have a1 := (R.tab_at hn).1
  have a2 := (R.tab_at hm).1
  rw [e] at a2
  obtain ⟨i1, j1⟩ := List.getElem?_eq_some_iff.mp a1
  obtain ⟨i2, j2⟩ := List.getElem?_eq_some_iff.mp a2
  have nm : n = m := (List.getElem_inj R.nd).mp (j1.trans j2.symm)
  subst nm
  rw [hn] at hm
  cases hm
  rfl
/-- the tables grow, all else stays -/
theorem Rl.tabsN (R : Rl K ex HF H0 H al S) (h : hasTab f S = true) (e : LamX.ExtN H H') (t : LamX.Tabs (tabsIn K S) H') : Rl K ex HF H0 H' al S := by
  obtain ⟨n, hn⟩ := hasTab_at h
  obtain ⟨_, _, nF, n0⟩ := R.tab_at hn
  have fz := same_extN R.fz n0 e
  have at' : ∀ (m : Nat) (b : Addr) (c : Cell), al[m]? = some b → S[m]? = some c → COk K ex HF H0 H' al b c ∧ H' b ≠ none := fun m b c hb hc => by
    have q := R.at_ m b c hb hc
    cases c with
    | dead =>
      refine ⟨q, fun z => ?_⟩
      cases q0 : H0 b with
      | none => exact q q0
      | some o => rw [fz b o q0] at z; cases z
    | lst ds =>
      obtain ⟨p1, p2, us, p3, p4⟩ := q
      have p5 := e _ _ p3 (fun _ z => nomatch z)
      exact ⟨⟨p1, p2, us, p5, p4⟩, fun z => by rw [p5] at z; cases z⟩
    | dct kvs =>
      obtain ⟨p1, p2, us, p3, p4⟩ := q
      have p5 := e _ _ p3 (fun _ z => nomatch z)
      exact ⟨⟨p1, p2, us, p5, p4⟩, fun z => by rw [p5] at z; cases z⟩
    | ins cn fs =>
      obtain ⟨p1, p2, dx, us, p3, p4, p6, p7, p8, p9, p10⟩ := q
      have p5 := e _ _ p3 (fun _ z => nomatch z)
      exact ⟨⟨p1, p2, dx, us, p5, p4, p6, p7, p8, e _ _ p9 (fun _ z => nomatch z), p10⟩, fun z => by rw [p5] at z; cases z⟩
    | tab g =>
      obtain ⟨p1, p2, p3, p4, p5⟩ := q
      have tg : LamX.TabS H' b (lamQ g) := by rw [p4.2]; exact t _ (tabsIn_mem hc)
      obtain ⟨ps, z1, z2⟩ := tg
      exact ⟨⟨p1, p2, ⟨ps, z1, z2⟩, p4, p5⟩, fun z => by rw [z1] at z; cases z⟩
  refine ⟨same_extN R.fr nF e, fz, R.len, R.nd, fun m b c hb hc => (at' m b c hb hc).1, fun b hb => ?_⟩
  obtain ⟨m, hm, hb'⟩ := List.getElem_of_mem hb
  have hS : m < S.length := by rw [← R.len]; exact hm
  exact (at' m b S[m] (by rw [List.getElem?_eq_getElem hm, hb']) (List.getElem?_eq_getElem hS)).2
end

/-! ### the texts -/
theorem allU_inv {fe : FE} {f : Str} {g : Nat → Option PyData} {ls : List Lam} {nm : Str} {S S' : Store} {u : U} (h : allU fe f g ls nm S = .ok u S') : hasTab f S = true ∧ fe.ps.length = 2 ∧ ∃ cs b, closOf g ls = some cs ∧ fe.m [.ll cs, .d (.str nm)] = .ok (.bool b) ∧ u = .d (.bool b) ∧ S' = S := by
  unfold allU at h
  split at h
  · rename_i hc
    split at h
    · rename_i cs q
      split at h
      · rename_i b q2
        cases h
        exact ⟨hc.1, hc.2, cs, b, q, q2, rfl, rfl⟩
      · cases h
    · cases h
  · cases h
theorem allU_exc {fe : FE} {f : Str} {g : Nat → Option PyData} {ls : List Lam} {nm : Str} {S S' : Store} {c : Str} (h : allU fe f g ls nm S = .exc c S') : False := by
  unfold allU at h
  split at h
  · split at h
    · split at h <;> cases h
    · cases h
  · cases h
section
variable {X : Cx} {ex : ExK} {W : WX}
theorem slot_at {HF H0 H H1 : Hp} {al : List Addr} {S : Store} {r : Rho} {s : L2.St} (R : Rl X.K ex HF H0 H al S) (L : Sl X.K ex H0 al s r) (s1 : Same H0 H1) : ∀ j d, slotD r j = some d → ∃ w, s[j]? = some (some w) ∧ DP X.K H1 d w := fun j d e => by
  unfold slotD at e
  split at e
  · rename_i x q
    cases e
    obtain ⟨w, h1, h2⟩ := L.at_ j _ q
    exact ⟨w, h1, DP.mono s1 _ _ h2⟩
  · cases e
theorem all_core {fe : FE} {f nm : Str} {ls : List Lam} {g : Nat → Option PyData} {HF H0 H H1 : Hp} {al : List Addr} {S : Store} {σ : L2.St} {Q : VK} {L : Addr} {ws : List V} {cs : List U} {b : Bool} (R : Rl X.K ex HF H0 H al S) (hT : hasTab f S = true) (eN : LamX.ExtN H H1) (T1 : LamX.Tabs (tabsIn X.K S) H1)
    (hL : H1 L = some (.lst ws)) (la : LamsAt X.N X.env.scope (lamQ f) X.env.cells H1 ls ws) (hg : ∀ j d, g j = some d → ∃ w, σ[j]? = some (some w) ∧ DP X.K H1 d w) (hc : closOf g ls = some cs) (hm : fe.m [.ll cs, .d (.str nm)] = .ok (.bool b))
    (h : ∀ H2, Rl X.K ex HF H0 H2 al S → Q (.bl b) H2) : AllR X fe nm σ Q [.ref L, .str nm] H1 := by
  refine ⟨.ref L, b, cs, rfl, hm, fun pins s0 I0 => ⟨L, ws, rfl, same_pin (fun c hc => (pinOk I0 c hc).1) _ _ hL, ups_clos I0 hg la hc⟩, fun H2 s12 => ?_⟩
  have R1 := R.tabsN hT eN T1
  exact h H2 (R1.grow s12 (Same.refl _) (fun _ _ => rfl) (R1.fz.trans s12) fun z => z).1
theorem de_allL {k : Nat} {fe : FE} {f nm : Str} {l : Lam} {body : Expr} {scope : Scope} {j : Nat} {lp lp2 p p2 pos : Pos} (M : Mkr X f) (hB : lamB X.N X.env.scope l body scope = true) (G : Good X k fe) (hr : Room k X.A) (hg : Gl X fe.name) (hdb : (fe.name == ("__debug__" : Str)) = false) (hps : fe.ps.length = 2) (hfn : ∀ x, X.fn x = true) :
    DE X ex W (.allL fe f l nm) (.Call (.Name fe.name p) [.List [.Lambda par0 body scope lp] lp2, .Constant (.str nm) j p2] [] pos) := by
  refine ⟨_, pe_allP G hr hg hdb hps hfn (pe_lst (pos := lp2) (pa_cons (pe_lam (pos := lp) M hB) pa_nil (star_cons rfl))) rfl, fun HF H0 H al S r s Q R L h => ?_⟩
  simp only [evalE] at h
  cases q : allU fe f (slotD r) [l] nm S with
  | exc c S1 => exact (allU_exc q).elim
  | bad => rw [q] at h; exact h.elim
  | ok u S1 =>
    rw [q] at h
    obtain ⟨q1, q2, cs, b, q3, q4, rfl, rfl⟩ := allU_inv q
    obtain ⟨n, hn⟩ := hasTab_at q1
    obtain ⟨_, _, nF, n0⟩ := R.tab_at hn
    refine ⟨tabsIn X.K S1, R.tabs_ok q1, R.tabs_of, fun a H1 eN nn T1 hf la => ⟨by show 1 ≤ sizeLine; decide, fun P hP => ?_⟩⟩
    have su : ∀ c o, H1 c = some o → upd H1 P (.lst [.ref a]) c = some o := fun c o e => by rw [upd_ne (ne_of_none e hP)]; exact e
    have eN2 : LamX.ExtN H (upd H1 P (.lst [.ref a])) := eN.trans (LamX.ExtN.of su)
    exact all_core (ls := [l]) (ws := [.ref a]) R q1 eN2 (T1.ext su) upd_same ⟨a, [], body, scope, rfl, hB, la.mono (LamX.ExtN.of su), rfl⟩ (slot_at R L (same_extN R.fz n0 eN2)) q3 q4 fun H2 R2 => h (.bl b) H2 H0 al Xt.refl R2 rfl

/-! ### a def that makes such a list -/
def spM (K : PySem.W.Frag) (f : Str) (n : Nat) (ls : List Lam) : Sp := fun vs H Q E => vs.length = n ∧ ∃ ds T cs, DPs K H ds vs ∧ TabsOk T (tabA K f) (lamQ f) ∧ LamX.Tabs T H ∧ closOf (fun j => ds[j]?) ls = some cs ∧
  ∀ L H', LamX.ExtN H H' → LamX.Tabs T H' → UP K E0x H' [] (.ll cs) (.ref L) → Q (.ref L) H'
def GoodMk (X : Cx) (k : Nat) (f : Str) (n : Nat) (ls : List Lam) : Prop := ∃ a fd ps, X.mg f = some (.ref a) ∧ PySem.W.keepIn X.K (.ref a) = true ∧ Binds X.K fd ps [] ∧ ps.length = n ∧ FnOk X.prog X.w X.K X.mg X.base (L2.CX X.prog X.w) k a fd ps (spM X.K f n ls)
theorem de_allM {k : Nat} {fe : FE} {f nm : Str} {n : Nat} {ls : List Lam} {ps : Ps} {e : Expr} {es : List Expr} {j : Nat} {p p2 p3 p4 pos : Pos} (GM : GoodMk X k f n ls) (hgf : Gl X f) (hdf : (f == ("__debug__" : Str)) = false) (tk : Takes X W) (hn : (e :: es).all ns = true) (ha : DA X ex W ps (e :: es))
    (G : Good X k fe) (hr : Room k X.A) (hg : Gl X fe.name) (hdb : (fe.name == ("__debug__" : Str)) = false) (hps : fe.ps.length = 2) (hfn : ∀ x, X.fn x = true) :
    DE X ex W (.allM fe f n ls ps nm) (.Call (.Name fe.name p) [.Call (.Name f p3) (e :: es) [] p4, .Constant (.str nm) j p2] [] pos) := by
  obtain ⟨a, fd, pn, hm, hk, hb, hpn, F⟩ := GM
  obtain ⟨t, pt, jt⟩ := ha
  simp only [List.all_cons, Bool.and_eq_true] at hn
  refine ⟨_, pe_allP G hr hg hdb hps hfn (pe_callS (p := p3) (pos := p4) (E := fun s cls d H => W cls d s H) F hr hgf hm hk hb (fun s => passAt tk s) pt hdf (star_cons hn.1) (star_any hn.2)) rfl, fun HF H0 H al S r s Q R L h => ?_⟩
  simp only [evalE] at h
  refine jt _ _ _ _ _ _ _ _ R L (h.bind fun us S1 vs H1 H01 al1 e1 R1 u1 h1 => ?_)
  split at h1
  · rename_i hl
    split at h1
    · rename_i ds qd
      cases q : allU fe f (fun j => ds[j]?) ls nm S1 with
      | exc c S2 => exact (allU_exc q).elim
      | bad => rw [q] at h1; exact h1.elim
      | ok u S2 =>
        rw [q] at h1
        obtain ⟨q1, q2, cs, b, q3, q4, rfl, rfl⟩ := allU_inv q
        have dd : DPs X.K H1 ds vs := DPs.mono R1.fz _ _ (u1.to_ds qd)
        refine ⟨by rw [← u1.length, hl], ds, tabsIn X.K S2, cs, dd, R1.tabs_ok q1, R1.tabs_of, q3, fun P H2 eN T2 up => ?_⟩
        refine ⟨.ref P, b, cs, rfl, q4, fun pins s0 I0 => UP.mono (same_pin fun c hc => (pinOk I0 c hc).1) (List.prefix_refl _) _ _ up, fun H3 s23 => ?_⟩
        have R2 := R1.tabsN q1 eN T2
        exact h1 (.bl b) H3 H01 al1 Xt.refl (R2.grow s23 (Same.refl _) (fun _ _ => rfl) (R2.fz.trans s23) fun z => z).1 rfl
    · exact h1.elim
  · exact h1.elim

/-! ### a list of lambdas, then its use -/
theorem blk_core {f : Str} {i : Nat} {ls : List Lam} {fe : FE} {nm : Str} {N : L2.St → Hp → Prop} {HF H0 H : Hp} {al : List Addr} {S : Store} {r : Rho} {s : L2.St} {b : Bool} (R : Rl X.K ex HF H0 H al S) (L : Sl X.K ex H0 al s r) (hz : ls.length ≤ 1000) (q : allU fe f (slotD (r.set i none)) ls nm S = .ok (.d (.bool b)) S)
    (h : ∀ σ H1 (P : Addr), Sl X.K ex H0 al σ (r.set i none) → (∀ Q : VK, (∀ H2, Rl X.K ex HF H0 H2 al S → Q (.bl b) H2) → AllR X fe nm σ Q [.ref P, .str nm] H1) → σ[i]? = some (some (.ref P)) → N σ H1) : tBlk X f i ls N s H := by
  obtain ⟨q1, q2, cs, b', q3, q4, eb, _⟩ := allU_inv q
  cases eb
  obtain ⟨n, hn⟩ := hasTab_at q1
  obtain ⟨_, _, nF, n0⟩ := R.tab_at hn
  refine ⟨tabsIn X.K S, R.tabs_ok q1, R.tabs_of, Nat.le_trans hz (by decide), fun P H1 ws eN T1 hP la hi => ?_⟩
  have L2 : Sl X.K ex H0 al (s.set i (some (.ref P))) (r.set i none) := L.unset
  refine h _ H1 P L2 (fun Q hQ => ?_) (by rw [List.getElem?_set_self hi])
  exact all_core (σ := s.set i (some (.ref P))) R q1 eN T1 hP la (slot_at R L2 (same_extN R.fz n0 eN)) q3 q4 hQ
abbrev ifAll (g x nm : Str) (j j2 : Nat) (p p1 p2 p3 p4 p5 p6 p7 : Pos) : Stmt := .If (.UnaryOp .Not (.Call (.Name g p) [.Name x p1, .Constant (.str nm) j p2] [] p3) p4) [.Return (some (.Constant (.bool false) j2 p5)) p6] [] p7
theorem all_case {fe : FE} {f nm : Str} {ls : List Lam} {g : Nat → Option PyData} {S : Store} {r : Rho} {o : Bool → Store → Out} {HF H0 : Hp} {al : List Addr} {D : Ends} (h : PostS X.K ex W HF H0 al (((allU fe f g ls nm S).bind fun u S1 => lift (asB u) S1).out r o) D) : ∃ b, allU fe f g ls nm S = .ok (.d (.bool b)) S ∧ PostS X.K ex W HF H0 al (o b S) D := by
  cases q : allU fe f g ls nm S with
  | exc c S1 => exact (allU_exc q).elim
  | bad => rw [q] at h; exact h.elim
  | ok u S1 =>
    obtain ⟨_, _, cs, b, _, _, rfl, rfl⟩ := allU_inv q
    rw [q] at h
    exact ⟨b, rfl, h⟩
theorem dss_lamI {k : Nat} {fe : FE} {f nm x : Str} {i : Nat} {ls : List Lam} {pre sts : List Stmt} {b : Ss} {j j2 : Nat} {p p1 p2 p3 p4 p5 p6 p7 : Pos} (M : Mkr X f) (hND : X.N.Nodup) (hS : Stor X i x) (hd : (x == ("__debug__" : Str)) = false) (hcd : (x == ("__classdict__" : Str)) = false) (hz : ls.length ≤ 1000) (hB : mBlk X.N X.env.scope x ls pre = true)
    (G : Good X k fe) (hr : Room k X.A) (hg : Gl X fe.name) (hdb : (fe.name == ("__debug__" : Str)) = false) (hps : fe.ps.length = 2) (hfn : ∀ x, X.fn x = true) (hb : DSs X ex W b sts) :
    DSs X ex W (.cons (.lamI fe f i ls nm) b) (pre ++ ifAll fe.name x nm j j2 p p1 p2 p3 p4 p5 p6 p7 :: sts) := by
  obtain ⟨t, pt, jt⟩ := hb
  have hv : Vis X.env.scope x := hS.2.1.elim .inl fun z => .inr (.inl z)
  refine ⟨_, pss_seg (seg_blk M hND hS hd hcd hB) (pss_cons (ps_if (pt_not (pt_val (pe_allP G hr hg hdb hps hfn (pe_var (pos := p1) hS.1 hv hd hcd) rfl))) (pss_one (ps_ret pe_bl)) pss_nil) pt), fun HF H0 H al S r s D R L h => ?_⟩
  simp only [evalSs, evalS] at h
  have h : PostS X.K ex W HF H0 al (((allU fe f (slotD (r.set i none)) ls nm S).bind fun u S1 => lift (asB u) S1).out (r.set i none) fun b' S1 => ((if b' = true then Out.next (r.set i none) S1 else .ret (.d (.bool false)) S1).seq fun r' S' => evalSs b r' S')) D := by
    cases q : allU fe f (slotD (r.set i none)) ls nm S with
    | exc c S1 => exact (allU_exc q).elim
    | bad => rw [q] at h; exact h
    | ok u S1 =>
      obtain ⟨_, _, cs, b, _, _, rfl, rfl⟩ := allU_inv q
      rw [q] at h
      exact h
  obtain ⟨b', q, h⟩ := all_case h
  refine blk_core R L hz q fun σ H1 P L1 ha hσ => ⟨_, hσ, ?_⟩
  refine ha _ fun H2 R2 => ⟨b', rfl, ?_⟩
  cases b' with
  | true => exact jt _ _ _ _ _ _ _ _ R2 L1 h
  | false => exact h (.bl false) H2 H0 al Xt.refl R2 rfl
theorem dss_lamR {k : Nat} {fe : FE} {f nm x : Str} {i : Nat} {ls : List Lam} {a : P} {e : Expr} {pre : List Stmt} {j : Nat} {p p1 p2 p3 p4 p5 : Pos} (M : Mkr X f) (hND : X.N.Nodup) (hS : Stor X i x) (hd : (x == ("__debug__" : Str)) = false) (hcd : (x == ("__classdict__" : Str)) = false) (hz : ls.length ≤ 1000) (hB : mBlk X.N X.env.scope x ls pre = true)
    (G : Good X k fe) (hr : Room k X.A) (hg : Gl X fe.name) (hdb : (fe.name == ("__debug__" : Str)) = false) (hps : fe.ps.length = 2) (hfn : ∀ x, X.fn x = true) (ha : DE X ex W a e) :
    DSs X ex W (.cons (.lamR fe f i ls nm a) .nil) (pre ++ [.Return (some (.BoolOp .And [.Call (.Name fe.name p) [.Name x p1, .Constant (.str nm) j p2] [] p3, e] p4)) p5]) := by
  obtain ⟨t, pt, jt⟩ := ha
  have hv : Vis X.env.scope x := hS.2.1.elim .inl fun z => .inr (.inl z)
  refine ⟨_, pss_seg (seg_blk M hND hS hd hcd hB) (pss_one (ps_ret (pe_and (pe_allP G hr hg hdb hps hfn (pe_var (pos := p1) hS.1 hv hd hcd) rfl) (pe_one pt)))), fun HF H0 H al S r s D R L h => ?_⟩
  simp only [evalSs, evalS] at h
  have h : PostS X.K ex W HF H0 al (((allU fe f (slotD (r.set i none)) ls nm S).bind fun u S1 => lift (asB u) S1).out (r.set i none) fun b' S1 => (if b' = true then (evalE a (r.set i none) S1).out (r.set i none) fun u S2 => .ret u S2 else .ret (.d (.bool false)) S1)) D := by
    cases q : allU fe f (slotD (r.set i none)) ls nm S with
    | exc c S1 => exact (allU_exc q).elim
    | bad => rw [q] at h; exact h
    | ok u S1 =>
      obtain ⟨_, _, cs, b, _, _, rfl, rfl⟩ := allU_inv q
      rw [q] at h
      simp only [Res.ok_bind, asB, lift_some, Res.out_ok] at h ⊢
      cases b with
      | false => exact h
      | true =>
        simp only [if_true] at h ⊢
        cases q2 : evalE a (r.set i none) S1 with
        | ok u2 S2 => rw [q2] at h; exact h
        | exc c S2 => rw [q2] at h; exact h
        | bad => rw [q2] at h; exact h
  obtain ⟨b', q, h⟩ := all_case h
  refine blk_core R L hz q fun σ H1 P L1 hA hσ => ⟨_, hσ, ?_⟩
  refine hA _ fun H2 R2 => ⟨b', rfl, ?_⟩
  cases b' with
  | true =>
    simp only [if_true] at h ⊢
    exact jt _ _ _ _ _ _ _ _ R2 L1 (PostS.ofE (g := fun u S2 => .ret u S2) L1 h fun u S2 v H3 H03 al3 e3 R3 u3 h3 => h3 v H3 H03 al3 Xt.refl R3 u3)
  | false => exact h (.bl false) H2 H0 al Xt.refl R2 rfl
end
end PD
/-! Part I: a closure is called; a def that is handed the caught error. -/
namespace PD
open PySem PySem.Spec PyProof.Rows L2

/-! ### what a closure hands over -/
def p0 : Expr → P
  | .Constant .none _ _ => .cst .none
  | .Constant (.bool b) _ _ => .cst (.bool b)
  | .Constant (.int i) _ _ => .cst (.int i)
  | .Constant (.str x) _ _ => .cst (.str x)
  | .UnaryOp .USub (.Constant (.int i) _ _) _ => .neg (.cst (.int i))
  | _ => .cst .none
def p0s : List Expr → Ps
  | [] => .nil
  | e :: es => .cons (p0 e) (p0s es)
def p1 (i : Nat) (e : Expr) : P := match e with
  | .Name _ _ => .var i
  | .Tuple es _ _ => .tup (p0s es)
  | e => p0 e
def ps1 (i : Nat) : List Expr → Ps
  | [] => .nil
  | e :: es => .cons (p1 i e) (ps1 (i + 1) es)
theorem asDs_map : ∀ ds : List PyData, asDs (ds.map .d) = some ds
  | [] => rfl
  | d :: ds => by rw [List.map_cons, asDs, asDs_map ds]; rfl
section
variable {X : Cx} {ex : ExK} {W : WX}
theorem de_p0 {e : Expr} {d : PyData} (h : cst0 e = some d) : (DE X ex W (p0 e) e ∧ ns e = true ∧ ∀ es k p, e ≠ .Tuple es k p) ∧ (∀ y p, e ≠ .Name y p) ∧ ∀ r S, evalE (p0 e) r S = .ok (.d d) S := by
  unfold cst0 at h
  split at h
  · cases h
    exact ⟨⟨de_none, rfl, fun _ _ _ z => nomatch z⟩, (fun _ _ z => nomatch z), fun r S => by simp only [p0, evalE]⟩
  · cases h
    exact ⟨⟨de_bool, rfl, fun _ _ _ z => nomatch z⟩, (fun _ _ z => nomatch z), fun r S => by simp only [p0, evalE]⟩
  · cases h
    exact ⟨⟨de_int, rfl, fun _ _ _ z => nomatch z⟩, (fun _ _ z => nomatch z), fun r S => by simp only [p0, evalE]⟩
  · cases h
    exact ⟨⟨de_str, rfl, fun _ _ _ z => nomatch z⟩, (fun _ _ z => nomatch z), fun r S => by simp only [p0, evalE]⟩
  · cases h
    exact ⟨⟨de_neg de_int, rfl, fun _ _ _ z => nomatch z⟩, (fun _ _ z => nomatch z), fun r S => by simp only [p0, evalE, Res.ok_bind, negU]⟩
  · cases h
theorem da_p0s : ∀ {es : List Expr} {ds : List PyData}, cst0s es = some ds → DA X ex W (p0s es) es ∧ ∀ r S, evalEs (p0s es) r S = .ok (ds.map .d) S
  | [], _, h => by
    cases h
    exact ⟨da_nil, fun r S => by simp only [p0s, evalEs, List.map_nil]⟩
  | e :: es, ds, h => by
    cases q : cst0 e with
    | none => simp [cst0s, q] at h
    | some d =>
      cases q2 : cst0s es with
      | none => simp [cst0s, q, q2] at h
      | some r =>
        simp [cst0s, q, q2] at h
        subst h
        obtain ⟨⟨h1, h2, _⟩, _, h3⟩ := de_p0 (X := X) (ex := ex) (W := W) q
        obtain ⟨k1, k2⟩ := da_p0s (es := es) q2
        exact ⟨da_cons h2 h1 k1, fun r S => by simp only [p0s, evalEs, h3, k2, Res.ok_bind, List.map_cons]⟩
theorem de_p1 {i : Nat} {e : Expr} {d : PyData} (h : cst1 e = some d) : DE X ex W (p1 i e) e ∧ ns e = true ∧ ∀ r S, evalE (p1 i e) r S = .ok (.d d) S := by
  unfold cst1 at h
  split at h
  · rename_i es k p
    split at h
    · rename_i hz
      cases q : cst0s es with
      | none => rw [q] at h; cases h
      | some ds =>
        rw [q] at h
        cases h
        obtain ⟨k1, k2⟩ := da_p0s (X := X) (ex := ex) (W := W) q
        refine ⟨de_tup k1 fun r S us S' e => ?_, rfl, fun r S => ?_⟩
        · rw [evalEs_len e]
          have : ∀ es : List Expr, (p0s es).len = es.length := by
            intro es
            induction es with
            | nil => rfl
            | cons e es ih => simp [p0s, Ps.len, ih]
          rw [this]
          exact hz
        · simp only [p1, evalE, k2, Res.ok_bind, tupU, asDs_map]
    · cases h
  · obtain ⟨⟨h1, h2, h3⟩, h4, h5⟩ := de_p0 (X := X) (ex := ex) (W := W) h
    have : p1 i e = p0 e := by
      unfold p1
      split
      · exact (h4 _ _ rfl).elim
      · exact (h3 _ _ _ rfl).elim
      · rfl
    rw [this]
    exact ⟨h1, h2, h5⟩
end
/-- names, what is known of them, their values -/
def AtL (K : PySem.W.Frag) (H : Hp) (scope : Scope) (clo : List (Str × Addr)) : List Str → Rho → L2.St → List Expr → List PyData → Prop
  | [], [], [], [], [] => True
  | n :: Ns, r :: rs, s :: ss, e :: es, d :: ds => ((∃ p c o u w, e = .Name n p ∧ (n == ("__debug__" : Str)) = false ∧ (n == ("__classdict__" : Str)) = false ∧ scope.names.lookup n = some .free ∧ clo.lookup n = some c ∧ H c = some (.frz o oT) ∧ o.data = .cell (some u) ∧ RelV w u ∧ DP K H d w ∧ r = some (.d d) ∧ s = some w) ∨ (cst1 e = some d ∧ r = none ∧ s = none)) ∧ AtL K H scope clo Ns rs ss es ds
  | _, _, _, _, _ => False
section
variable {K : PySem.W.Frag} {H : Hp} {scope : Scope} {clo : List (Str × Addr)}
theorem atL_of : ∀ {es : List Expr} {ds : List PyData}, ArgsP K H scope clo es ds → ∃ Ns rs ss, AtL K H scope clo Ns rs ss es ds
  | [], _, h => by
    cases h
    exact ⟨[], [], [], trivial⟩
  | e :: es, _, ⟨d, r, h1, h2, h3⟩ => by
    subst h1
    obtain ⟨Ns, rs, ss, hr⟩ := atL_of h3
    rcases h2 with ⟨y, p, c, o, u, w, rfl, a1, a2, a3, a4, a5, a6, a7, a8⟩ | h
    · exact ⟨y :: Ns, some (.d d) :: rs, some w :: ss, .inl ⟨p, c, o, u, w, rfl, a1, a2, a3, a4, a5, a6, a7, a8, rfl, rfl⟩, hr⟩
    · exact ⟨"" :: Ns, none :: rs, none :: ss, .inr ⟨h, rfl, rfl⟩, hr⟩
theorem AtL.len : ∀ {Ns : List Str} {rs : Rho} {ss : L2.St} {es : List Expr} {ds : List PyData}, AtL K H scope clo Ns rs ss es ds → Ns.length = ss.length ∧ rs.length = ss.length ∧ ds.length = es.length
  | [], [], [], [], [], _ => ⟨rfl, rfl, rfl⟩
  | _ :: _, _ :: _, _ :: _, _ :: _, _ :: _, h => by
    obtain ⟨a, b, c⟩ := AtL.len h.2
    simp [a, b, c]
theorem AtL.val : ∀ {Ns : List Str} {rs : Rho} {ss : L2.St} {es : List Expr} {ds : List PyData} {i : Nat} {y : Str} {w : V}, AtL K H scope clo Ns rs ss es ds → Ns[i]? = some y → ss[i]? = some (some w) → ∃ c o u, clo.lookup y = some c ∧ scope.names.lookup y = some .free ∧ H c = some (.frz o oT) ∧ o.data = .cell (some u) ∧ RelV w u
  | [], [], [], [], [], _, _, _, _, e, _ => by simp at e
  | _ :: _, _ :: _, _ :: _, _ :: _, _ :: _, 0, y, w, h, e1, e2 => by
    simp at e1 e2
    subst e1 e2
    rcases h.1 with ⟨p, c, o, u, w', _, _, _, a3, a4, a5, a6, a7, _, _, z⟩ | ⟨_, _, z⟩
    · cases z
      exact ⟨c, o, u, a4, a3, a5, a6, a7⟩
    · cases z
  | _ :: _, _ :: _, _ :: _, _ :: _, _ :: _, i + 1, y, w, h, e1, e2 => AtL.val h.2 (by simpa using e1) (by simpa using e2)
theorem AtL.dat : ∀ {Ns : List Str} {rs : Rho} {ss : L2.St} {es : List Expr} {ds : List PyData} {i : Nat} {x : U}, AtL K H scope clo Ns rs ss es ds → rs[i]? = some (some x) → ∃ d w, x = .d d ∧ ss[i]? = some (some w) ∧ DP K H d w
  | [], [], [], [], [], _, _, _, e => by simp at e
  | _ :: _, _ :: _, _ :: _, _ :: _, _ :: _, 0, x, h, e1 => by
    simp at e1
    subst e1
    rcases h.1 with ⟨p, c, o, u, w', _, _, _, a3, a4, a5, a6, a7, a8, z1, z2⟩ | ⟨_, z, _⟩
    · cases z1
      subst z2
      exact ⟨_, w', rfl, rfl, a8⟩
    · cases z
  | _ :: _, _ :: _, _ :: _, _ :: _, _ :: _, i + 1, x, h, e1 => by
    obtain ⟨d, w, z1, z2, z3⟩ := AtL.dat (i := i) (x := x) h.2 (by simpa using e1)
    exact ⟨d, w, z1, by simpa using z2, z3⟩
theorem da_args {X : Cx} {ex : ExK} {W : WX} {r : Rho} (hsc : X.env.scope = scope) : ∀ {Ns : List Str} {rs : Rho} {ss : L2.St} {es : List Expr} {ds : List PyData} (pre : List Str) (rp : Rho), X.N = pre ++ Ns → r = rp ++ rs → pre.length = rp.length → AtL K H scope clo Ns rs ss es ds →
    DA X ex W (ps1 pre.length es) es ∧ es.all ns = true ∧ ∀ S, evalEs (ps1 pre.length es) r S = .ok (ds.map .d) S
  | [], [], [], [], [], _, _, _, _, _, _ => ⟨da_nil, rfl, fun S => by simp only [ps1, evalEs, List.map_nil]⟩
  | n :: Ns, r0 :: rs, s0 :: ss, e :: es, d :: ds, pre, rp, hN, hr, hl, h => by
    obtain ⟨k1, k2, k3⟩ := da_args (X := X) (ex := ex) (W := W) (r := r) hsc (pre ++ [n]) (rp ++ [r0]) (by rw [hN]; simp) (by rw [hr]; simp) (by simp [hl]) h.2
    rw [List.length_append, List.length_singleton] at k1 k3
    have one : DE X ex W (p1 pre.length e) e ∧ ns e = true ∧ ∀ S, evalE (p1 pre.length e) r S = .ok (.d d) S := by
      rcases h.1 with ⟨p, c, o, u, w, rfl, a1, a2, a3, a4, a5, a6, a7, a8, rfl, a10⟩ | ⟨z, _, _⟩
      · refine ⟨de_var (by rw [hN]; simp) (by rw [hsc]; exact .inr (.inr a3)) a1 a2, rfl, fun S => ?_⟩
        have : r[pre.length]? = some (some (.d d)) := by rw [hr, hl]; simp
        simp only [p1, evalE, this]
      · obtain ⟨z1, z2, z3⟩ := de_p1 (X := X) (ex := ex) (W := W) (i := pre.length) z
        exact ⟨z1, z2, fun S => z3 r S⟩
    refine ⟨da_cons one.2.1 one.1 k1, by rw [List.all_cons, one.2.1, k2]; rfl, fun S => ?_⟩
    simp only [ps1, evalEs, one.2.2, k3, Res.ok_bind, List.map_cons]
end

/-! ### the call -/
theorem unA_none {A : List Addr} {H : Hp} {b : Addr} (h : H b = none) : unA A H b = none := by
  unfold unA
  split
  · rfl
  · exact h
theorem hok_un {Pg : Program} {w : World} {A : List Addr} {H : Hp} {h : Heap} (ok : HOk Pg w H h) (hA : ∀ b ∈ A, ∃ o, H b = some (.frz o oT)) : HOk Pg w (unA A H) h := fun b o e => by
  have nf : ∀ d x, H d = some x → (∀ o u, x ≠ .frz o u) → d ∉ A := fun d x q n z => by
    obtain ⟨_, e⟩ := hA d z
    rw [q] at e
    exact n _ _ (Option.some.inj e)
  by_cases hb : b ∈ A
  · rw [unA_in hb] at e
    cases e
  · rw [unA_out hb] at e
    exact (ok b o e).stay (fun d v _ q => q) (fun d q => by rw [unA_out (nf d _ q (fun _ _ z => nomatch z))]; exact q) (fun d xs q => by rw [unA_out (nf d _ q (fun _ _ z => nomatch z))]; exact q)
/-- the closure's frame -/
def cloCx (X : Cx) (s : Shared) (H : Hp) (E : XK) (Ns : List Str) (env : Env) : Cx where
  prog := X.prog
  w := X.w
  K := X.K
  mg := X.mg
  base := X.base
  A := X.A.deeper env
  N := Ns
  s_0 := s
  H_0 := H
  env := env
  outer := X.stack
  stack := env :: X.stack
  ex := []
  fn := fun _ => false
  calm := true
  pn := []
  xe := fun e s' => wpAny (model X.prog X.w) (X.A.deeper env) (leaving env e) (fun _ s2 => L2.CX X.prog X.w X.stack H s E e s2) (fun e2 s2 => L2.CX X.prog X.w X.stack H s E e2 s2) s'
section
variable {X : Cx} {ex : ExK} {W : WX}
def tClo (X : Cx) (W : WX) (fes : List FE) (i : Nat) : TE := fun σ H _ => ∃ f ds fe c, σ[i]? = some (some (.ref f)) ∧ fe ∈ fes ∧ CloP X.K H fe.name ds f ∧ ds.length = fe.ps.length ∧ fe.m (ds.map .d) = .exc c ∧ ∀ H2, Same H H2 → W (.ref (He.ga X.K c)) none σ H2
theorem pe_clo {k : Nat} {fes : List FE} {i : Nat} {x : Str} {p1' p2' : Pos} (G : ∀ fe ∈ fes, Good X k fe) (hr : Room (k + 1) X.A) (tk : Takes X W) (hN : X.N[i]? = some x) (hv : Vis X.env.scope x) (hd : (x == ("__debug__" : Str)) = false) (hcd : (x == ("__classdict__" : Str)) = false) :
    PE X (.Call (.Name x p1') [] [] p2') (tClo X W fes i) := by
  refine ⟨fun pins s σ H Q I h => ?_⟩
  obtain ⟨f, ds, fe, c, hs, hfe, hc, hl, hm, hW⟩ := h
  refine wpAny_Call_Name_kw (thn ((pe_var (pos := p1') hN hv hd hcd).run pins s σ H (fun v H1 => v = .ref f ∧ H1 = H) I ⟨.ref f, hs, rfl, rfl⟩) fun u s1 ⟨v, H1, I1, r1, q1⟩ => ?_)
  obtain ⟨rfl, rfl⟩ := q1
  obtain rfl : u = Value.ref f := r1
  obtain ⟨q, np, np2, args, scope, clo, pm, ctv, c', h1, h2, LK, CC, AP⟩ := hc
  have of1 := (I1.hok f _ h1).1
  refine PySem.W.callWith_F0 ⟨_, _, _, _, of1⟩ ?_
  obtain ⟨⟨oc, vs, t, hoc, hdc, hvc⟩, _, _⟩ := I1.hok c' _ h2
  have hA : ∀ b ∈ cellsA clo, b ∉ frs X.stack ∧ ∃ o v, H1 b = some (.frz o oT) ∧ o.data = .cell v ∧ s1.heap.get? b = some o := fun b hb => by
    obtain ⟨y, e⟩ := cellsA_of hb
    obtain ⟨o, v, z1, z2⟩ := CC.cell y b e
    exact ⟨(fun z => by rw [I1.stkFree b z] at z1; cases z1), o, v, z1, z2, (I1.hok b _ z1).1⟩
  have hA2 : ∀ b ∈ cellsA clo, ∃ o, H1 b = some (.frz o oT) := fun b hb => by
    obtain ⟨_, o, _, z, _⟩ := hA b hb
    exact ⟨o, z⟩
  have hA3 : ∀ b ∈ cellsA clo, X.K.lookup b = none ∧ ∃ o, H1 b = some (.frz o oT) := fun b hb => by
    obtain ⟨o, z⟩ := hA2 b hb
    refine ⟨?_, o, z⟩
    cases e : X.K.lookup b with
    | none => rfl
    | some ob =>
      have := (I1.bs b ob (I1.ok.mod.kin b ob e)).2
      rw [z] at this
      cases this
  obtain ⟨Ns, rs, ss, at_⟩ := atL_of AP
  obtain ⟨l1, l2, l3⟩ := at_.len
  have e0 := I1.env0
  have rc : codeAny (model X.prog X.w) X.A (.call (.ref f) ⟨[], []⟩) (CR (L2.CX X.prog X.w) X.stack X.prog X.w (unA (cellsA clo) H1) s1 (fun _ _ => False) (fun cls d H' => W cls d σ (reA (cellsA clo) H1 H'))) s1 := by
    refine PySem.W.kla_callFunE hr.depth of1 rfl LK.co LK.gen rfl ⟨c', oc, vs, t, rfl, hoc, hdc, hvc⟩ ?_
    refine wpAny_pure (a := []) (wpAny_newFunctionEnv (fun y hy => (LK.own y hy).2) (fun y hy => absurd hy (by simp)) (fun h₁ hns hsb => ⟨I1.nolimit.fresh _ hsb, ?_⟩) LK.kind)
    have kp : ∀ d y, s1.heap.get? d = some y → h₁.get? d = some y := fun d y z => hsb.extBut d y (Nat.ne_of_lt (Heap.lt_size z)) (Heap.get?_push_of_some _ z)
    show codeAny _ _ (.expr (.Call (.Name fe.name np) args [] np2) (PySem.W.envX q scope s1.heap.objs.size f (.ref c') clo)) _ _
    have J : Inv (cloCx X s1 (unA (cellsA clo) H1) (fun cls d H' => W cls d σ (reA (cellsA clo) H1 H')) Ns (PySem.W.envX q scope s1.heap.objs.size f (.ref c') clo)) [] ss (unA (cellsA clo) H1) { s1 with heap := h₁, toks := s1.toks + ([] : List (Str × Value)).length } := by
      refine ⟨⟨e0.mod, LK.kind, rfl, rfl, Nat.le_refl _, CC.inj, fun y hy => ?_, (fun y c z _ => nomatch (show false = true from z)), (fun _ => hr.hd), Around.frames_deeper e0.frames, .inr ⟨rfl, rfl⟩, (fun b z => nomatch (show b ∈ ([] : List Addr) from z)), fun b o e => ⟨(e0.bs b o e).1, unA_none (e0.bs b o e).2⟩, e0.bsz, (fun b _ _ z => nomatch (show b ∈ ([] : List Addr) from z)),
          (fun b z => nomatch (show b ∈ ([] : List Addr) from z)), e0.funs, fun b hb => unA_none (e0.frf b hb)⟩,
        rfl, e0.bare, Un.kept kp, ⟨_, hns, fun i y v g1 g2 g3 => ?_⟩, fun y c e => ?_, unA_none (e0.hok.fresh (Nat.le_refl _)), fun y c e => unA_in (cellsA_mem e), (fun z hz => nomatch (show z ∈ ([] : List (Addr × Obj)) ++ [] from hz)), hok_un (e0.hok.kept kp) hA2, l1.symm⟩
      · have hy : scope.names.lookup y = some .cell ∨ scope.names.lookup y = some .free := hy
        rcases hy with hy | hy
        · exact absurd rfl (LK.own _ (PySem.mem_of_lookup hy)).2
        · exact CC.has y hy
      · obtain ⟨c2, o, u, z1, z2, z3, z4, z5⟩ := at_.val g1 g2
        exact ⟨u, z5, .inr ⟨.inr z2, c2, z1, o, kp _ _ (I1.hok c2 _ z3).1, z4⟩⟩
      · obtain ⟨o, v, z1, z2⟩ := CC.cell y c e
        exact ⟨v, o, kp _ _ (I1.hok c _ z1).1, z2⟩
    cases args with
    | nil => exact absurd rfl LK.ne
    | cons e es =>
      obtain ⟨da, dn, de⟩ := da_args (X := cloCx X s1 (unA (cellsA clo) H1) (fun cls d H' => W cls d σ (reA (cellsA clo) H1 H')) Ns (PySem.W.envX q scope s1.heap.objs.size f (.ref c') clo)) (ex := E0x) (W := fun cls d _ H' => W cls d σ (reA (cellsA clo) H1 H')) (r := rs) rfl [] [] rfl rfl rfl at_
      obtain ⟨tt, pt, jt⟩ := de_call (X := cloCx X s1 (unA (cellsA clo) H1) (fun cls d H' => W cls d σ (reA (cellsA clo) H1 H')) Ns (PySem.W.envX q scope s1.heap.objs.size f (.ref c') clo)) (p := np) (pos := np2) (fe := fe) (G fe hfe) (hr.deeper _) LK.hx LK.hd (takes_of rfl rfl rfl rfl) dn da
      refine PySem.W.kla_codeExpr (wpAny_mono (pt.run [] _ ss _ (fun _ _ => False) J (jt (unA (cellsA clo) H1) (unA (cellsA clo) H1) (unA (cellsA clo) H1) [] [] rs ss _ ⟨Same.refl _, Same.refl _, rfl, List.nodup_nil, fun n a c e => by simp at e, fun a ha => by simp at ha⟩ ⟨l2.symm, fun j x e => ?_⟩ ?_)) (fun v s' hq => ?_) fun e s' hq => hq)
      · obtain ⟨d, w', rfl, z1, z2⟩ := at_.dat e
        exact ⟨w', z1, DP.unpin hA3 _ _ z2⟩
      · have ev : evalE (.call fe (ps1 0 (e :: es))) rs [] = .exc c [] := by
          have : (ds.map U.d).length == fe.ps.length && (ds.map U.d).all U.closed = true := by simp [hl, U.closed]
          have de0 : evalEs (ps1 0 (e :: es)) rs [] = .ok (ds.map .d) [] := de []
          simp only [evalE, de0, Res.ok_bind, callU, hm]
          rw [if_pos (by simp [hl, U.closed])]
        show Post _ _ _ _ _ _ _ _ (evalE (.call fe (ps1 0 (e :: es))) rs []) _
        rw [ev]
        intro H' H0' al' e' R'
        refine hW _ fun b z hb => ?_
        by_cases hbA : b ∈ cellsA clo
        · rw [reA_in hbA]; exact hb
        · rw [reA_out hbA]
          exact R'.fr b z (by rw [unA_out hbA]; exact hb)
      · obtain ⟨_, _, _, _, z⟩ := hq
        exact z.elim
  refine wpAny_call (codeAny_mono rc fun rr s' hq => ?_)
  cases rr with
  | error e => exact passAt tk σ pins H1 s1 e s' I1 (cx_re hA hq)
  | ok fl =>
    cases fl with
    | ret u =>
      obtain ⟨_, _, _, _, _, _, _, z⟩ := hq
      exact z.elim
    | next => exact False.elim hq
    | brk => exact False.elim hq
    | cont => exact False.elim hq
theorem de_callC {k : Nat} {fes : List FE} {i : Nat} {x : Str} {p1' p2' : Pos} (G : ∀ fe ∈ fes, Good X k fe) (hr : Room (k + 1) X.A) (tk : Takes X W) (hN : X.N[i]? = some x) (hv : Vis X.env.scope x) (hd : (x == ("__debug__" : Str)) = false) (hcd : (x == ("__classdict__" : Str)) = false) :
    DE X ex W (.callC fes i) (.Call (.Name x p1') [] [] p2') := by
  refine ⟨_, pe_clo G hr tk hN hv hd hcd, fun HF H0 H al S r s Q R L h => ?_⟩
  simp only [evalE] at h
  unfold callCU at h
  split at h
  · rename_i y ds q
    split at h
    · rename_i fe q2
      split at h
      · rename_i hl
        split at h
        · rename_i c q3
          obtain ⟨v, z1, f, rfl, z2⟩ := L.at_ i _ q
          have hy : fe.name = y := by have := List.find?_some q2; simpa using this
          subst hy
          refine ⟨f, ds, fe, c, z1, List.mem_of_find?_eq_some q2, z2.mono R.fz, hl, q3, fun H2 s2 => ?_⟩
          exact h H2 H0 al Xt.refl (R.grow s2 (Same.refl _) (fun _ _ => rfl) (R.fz.trans s2) fun z => z).1
        · exact h.elim
      · exact h.elim
    · exact h.elim
  · exact h.elim
end
end PD
/-! Part O: the caught error is handed on. -/
namespace PD
open PySem PySem.Spec PyProof.Rows L2

/-- the known errors are pinned, their classes answer isinstance -/
def HotI (X : Cx) (ex : ExK) : Prop := ∀ a c, ex a c → ∃ oe : Obj, (a, oe) ∈ X.pn ∧ Zc (.ref (He.ga X.K c)) none oe ∧ (∃ vs, oe.data = .fields vs) ∧ ExcC X.K (He.ga X.K c)
section
variable {X : Cx} {ex : ExK} {W : WX}
theorem isE_pin {a D : Addr} {oe : Obj} (hp : (a, oe) ∈ X.pn) (C : ExcC X.K D) (hz : Zc (.ref D) none oe) (hf : ∃ vs, oe.data = .fields vs) : CallR X (.builtin "isinstance") (rIsE X.K D a) := by
  intro pins s σ H xs us Q I r h
  obtain ⟨c, cv, b, rfl, hcv, e, q⟩ := h
  obtain ⟨u1, u2, rfl, rx, rt⟩ : ∃ u1 u2, us = [u1, u2] ∧ RelV (.ref a) u1 ∧ RelV c u2 := by
    cases r with
    | cons rx rr =>
      cases rr with
      | cons rt r0 =>
        cases r0
        exact ⟨_, _, rfl, rx, rt⟩
  cases rx
  cases hcv _ rt
  have hget := (I.pin (a, oe) (List.mem_append_left _ hp)).1
  obtain ⟨vs, hv⟩ := hf
  obtain ⟨z1, z2⟩ := hz
  have J : PySem.W.InstAt s.heap a oe D none := by
    cases oe
    dsimp only at z1 z2 hv
    subst z1 z2 hv
    exact ⟨hget, rfl, rfl, trivial⟩
  have kx := PySem.W.handS_kitx_exc (x := a) (ox := oe) C.hg C.hk C.hs C.hd C.ha C.hn C.ht C.hm
  exact PySem.W.kia_one kx I.kIn J e (fun z => nomatch z) fun n => ⟨.bl b, H, I.kept (t' := n) fun _ _ z => z, rfl, q⟩
theorem exI_of (h : HotI X ex) : ExI X ex := fun a c e => by
  obtain ⟨oe, h1, h2, h3, h4⟩ := h a c e
  exact isE_pin h1 h4 h2 h3
theorem de_isv {i : Nat} {cs : List Str} {x : Str} {p p1 p2 pos : Pos} (hx : HotI X ex) (hi : BltN X "isinstance") (hV : BltN X "ValueError") (hN : X.N[i]? = some x) (hv : Vis X.env.scope x) (hd : (x == ("__debug__" : Str)) = false) (hcd : (x == ("__classdict__" : Str)) = false)
    (hk : ∀ c ∈ cs, PySem.W.kitOne X.K (.ref (He.ga X.K c)) (.type "ValueError") = some true) :
    DE X ex W (.isv i cs) (.Call (.Name "isinstance" p) [.Name x p1, .Name "ValueError" p2] [] pos) := by
  have cr : CallR X (.builtin "isinstance") (fun xs H Q => ∃ a c, ex a c ∧ rIsE X.K (He.ga X.K c) a xs H Q) := by
    intro pins s σ H xs us Q I r h
    obtain ⟨a, c, e, h⟩ := h
    exact exI_of hx a c e pins s σ H xs us Q I r h
  refine ⟨_, pe_callB cr hi.1 hi.2 boot_isinstance (pa_cons (pe_var hN hv hd hcd) (pa_cons (pe_bltn (v := .ty "ValueError") hV.1 hV.2 boot_ValueError rfl (by decide) (by decide)) pa_nil)) (by decide) (by decide), fun HF H0 H al S r s Q R L h => ?_⟩
  simp only [evalE] at h
  unfold isvU at h
  split at h
  · rename_i c q
    split at h
    · rename_i hc
      obtain ⟨v, h1, a, rfl, h2⟩ := L.at_ i _ q
      exact ⟨_, h1, a, c, h2, .ty "ValueError", .type "ValueError", true, rfl, fun u hu => hu, hk c hc, h.now R rfl⟩
    · exact h.elim
  · exact h.elim
/-- a def that is handed the error that an except suite holds: it gives a text -/
def HotOk (P : Program) (w : World) (K : PySem.W.Frag) (mg : Str → Option Value) (base : Heap) (k : Nat) (f : Addr) (fd : FuncData) (ps : List Str) (m : List U → R) : Prop :=
  ∀ (A : Around) (outer : List Env) (s : Shared) (H : Hp) (args : Args) (p : Addr × Obj) (c x : Str) (Q : VK), L2H.RoomH k A → L2H.PinOk outer H s p → Zc (.ref (He.ga K c)) none p.2 → (∃ vs, p.2.data = .fields vs) → ExcC K (He.ga K c) → Env0 P w K mg base A outer s H → BindsTo s fd args (ps.zip [.ref p.1]) →
    m [.exn c] = .ok (.str x) → (∀ H', Same H H' → Q (.str x) H') → codeAny (model P w) A (.call (.ref f) args) (CR (L2.CX P w) outer P w H s Q (fun _ _ _ => False)) s
def GoodH (X : Cx) (k : Nat) (fe : FE) : Prop := ∃ f fd, X.mg fe.name = some (.ref f) ∧ PySem.W.keepIn X.K (.ref f) = true ∧ Binds X.K fd fe.ps [] ∧ fe.ps.length = 1 ∧ HotOk X.prog X.w X.K X.mg X.base k f fd fe.ps fe.m
def tHot (X : Cx) (ex : ExK) (fe : FE) (i : Nat) : TE := fun σ H Q => ∃ a c x, σ[i]? = some (some (.ref a)) ∧ ex a c ∧ fe.m [.exn c] = .ok (.str x) ∧ ∀ H', Same H H' → Q (.str x) H'
theorem pe_hot {k : Nat} {fe : FE} {i : Nat} {x : Str} {q p1 pos : Pos} (G : GoodH X k fe) (hr : L2H.RoomH k X.A) (hx : HotI X ex) (hg : Gl X fe.name) (hdb : (fe.name == ("__debug__" : Str)) = false) (hN : X.N[i]? = some x) (hv : Vis X.env.scope x) (hd : (x == ("__debug__" : Str)) = false) (hcd : (x == ("__classdict__" : Str)) = false) :
    PE X (.Call (.Name fe.name q) [.Name x p1] [] pos) (tHot X ex fe i) := by
  obtain ⟨f, fd, hm, hk, hb, hps, F⟩ := G
  refine ⟨fun pins s σ H Q I h => ?_⟩
  obtain ⟨a, c, z, hs, hex, hmz, hQ⟩ := h
  refine wpAny_Call_Name_kw (ld_glob I hg hm ?_ hdb)
  refine PySem.W.callWith_K (h₀ := X.base) I.ok.mod.kin hk (thn ((pa_cons (pe_var (pos := p1) hN hv hd hcd) pa_nil).run pos pins s σ H (fun vs H1 => vs = [.ref a] ∧ H1 = H) I ⟨.ref a, hs, rfl, rfl⟩) fun us s1 ⟨vs, H1, I1, r, q⟩ => ⟨I1.kIn, ?_⟩) rfl rfl
  obtain ⟨rfl, rfl⟩ := q
  obtain rfl := Vals.ref1 r
  obtain ⟨oe, e1, e2, e3, e4⟩ := hx a c hex
  have bnd := hb s1 [.ref a] I1.kIn (by rw [List.append_nil, hps]; rfl)
  rw [List.append_nil] at bnd
  have P1 := I1.pin (a, oe) (List.mem_append_left _ e1)
  have hpin : L2H.PinOk X.stack H1 s1 (a, oe) := ⟨P1.1, P1.2.1, fun hm => (List.mem_cons.mp (I1.stkSub a hm)).elim P1.2.2.1 P1.2.2.2.1, P1.2.2.2.2⟩
  refine wpAny_call (codeAny_mono (F X.A X.stack s1 H1 ⟨[.ref a], []⟩ (a, oe) c z Q hr hpin e2 e3 e4 I1.env0 bnd hmz hQ) fun rr s' hq => ?_)
  cases rr with
  | error e =>
    obtain ⟨_, _, _, _, _, _, _, _, _, _, _, _, z⟩ := hq
    exact z.elim
  | ok fl =>
    cases fl with
    | ret u => exact I1.after hq
    | next => exact False.elim hq
    | brk => exact False.elim hq
    | cont => exact False.elim hq
theorem de_callH {k : Nat} {fe : FE} {i : Nat} {x : Str} {q p1 pos : Pos} (G : GoodH X k fe) (hr : L2H.RoomH k X.A) (hx : HotI X ex) (hg : Gl X fe.name) (hdb : (fe.name == ("__debug__" : Str)) = false) (hN : X.N[i]? = some x) (hv : Vis X.env.scope x) (hd : (x == ("__debug__" : Str)) = false) (hcd : (x == ("__classdict__" : Str)) = false) :
    DE X ex W (.callH fe i) (.Call (.Name fe.name q) [.Name x p1] [] pos) := by
  refine ⟨_, pe_hot G hr hx hg hdb hN hv hd hcd, fun HF H0 H al S r s Q R L h => ?_⟩
  simp only [evalE] at h
  unfold callHU at h
  split at h
  · rename_i c q
    split at h
    · rename_i z q2
      obtain ⟨v, h1, a, rfl, h2⟩ := L.at_ i _ q
      exact ⟨a, c, z, h1, h2, q2, fun H2 s2 => h (.str z) H2 H0 al Xt.refl (R.grow s2 (Same.refl _) (fun _ _ => rfl) (R.fz.trans s2) fun z => z).1 rfl⟩
    · exact h.elim
  · exact h.elim
end
end PD
/-! Part M: which text of ours stands for which text of the program; that what ours means is what the machine does. -/
namespace PD
open PySem PySem.Spec PyProof.Rows L2

structure Ct where
  N : List Str
  sc : Scope
  fn : Str → Bool
  calm : Bool
  top : Bool
  me : Option Str
def Ct.blk (c : Ct) (scope : Scope) : Ct := { c with sc := relS scope c.sc, fn := fun x => scope.names.lookup x == some .cell, top := false, me := none }
def Ct.suite (c : Ct) : Ct := { c with calm := false, top := false, me := none }
def okN (x : Str) : Bool := !(x == ("__debug__" : Str)) && !(x == ("__classdict__" : Str)) && !(x == ("__name__" : Str))
def visB (c : Ct) (i : Nat) (x : Str) : Bool := decide (c.N[i]? = some x) && okN x && (match c.sc.names.lookup x with | some .local => true | some .cell => true | some .free => true | _ => false)
def glB (c : Ct) (x : Str) : Bool := okN x && (match c.sc.names.lookup x with | some .globalImplicit => true | _ => false)
def storB (c : Ct) (i : Nat) (x : Str) : Bool := decide (c.N[i]? = some x) && (match c.sc.names.lookup x with | some .local => true | some .cell => c.fn x | _ => false)
def locB (c : Ct) (x : Str) : Bool := match c.sc.names.lookup x with | some .local => true | _ => false
def bnames : List Str := ["len", "max", "min", "abs", "list", "tuple", "set", "all", "any", "range", "sorted", "str", "int", "isinstance", "bool", "enumerate", "zip", "ValueError"]
def bltB (c : Ct) (x : Str) : Bool := glB c x && decide (x ∈ bnames)
def Blt.nm : Blt → Option (Str × Bool)
  | .len => some ("len", false) | .max2 => some ("max", false) | .min2 => some ("min", false) | .maxL => some ("max", false) | .abs => some ("abs", false)
  | .int => some ("int", true) | .sortS => some ("sorted", false) | .sortI => some ("sorted", false) | .minL => some ("min", false)
  | .list => some ("list", true) | .tuple => some ("tuple", true) | .all => some ("all", false) | .any => some ("any", false) | .str => some ("str", true)
  | _ => none
def opB : Bop → Operator → Bool
  | .add, .Add => true | .sub, .Sub => true | .mul, .Mult => true | .fdiv, .FloorDiv => true | .mod, .Mod => true | .pow, .Pow => true
  | _, _ => false
def copB : Cop → CmpOp → Bool
  | .eq, .Eq => true | .ne, .NotEq => true | .lt, .Lt => true | .le, .LtE => true | .gt, .Gt => true | .ge, .GtE => true
  | .isin, .In => true | .notin, .NotIn => true | .is, .Is => true | .isnot, .IsNot => true
  | _, _ => false
def eqoB : Bool → CmpOp → Bool
  | false, .Eq => true | true, .NotEq => true | _, _ => false
theorem eqo_of {ng : Bool} {op : CmpOp} (h : eqoB ng op = true) : op = eqOp ng := by
  cases ng <;> cases op <;> first | rfl | cases h
def boB : Bool → BoolOp → Bool
  | true, .And => true | false, .Or => true | _, _ => false
def namesB (c : Ct) : List Nat → List Expr → Bool
  | [], [] => true
  | i :: is, e :: es => (match e with | .Name x _ => storB c i x | _ => false) && namesB c is es
  | _, _ => false
def mG (c : Ct) : Tg → Expr → Bool
  | .name i, .Name x _ => storB c i x
  | .tup is, .Tuple es _ _ => c.calm && namesB c is es
  | _, _ => false
/-- what walks it yields new tuples: they must be taken apart -/
def tgOk : It → Expr → Bool
  | .enm _, .Tuple _ _ _ => true
  | .enm _, _ => false
  | .zp3 _, .Tuple _ _ _ => true
  | .zp3 _, _ => false
  | _, _ => true
def subB (is : List Nat) (own : List (Str × Nat)) : Bool := is.all fun i => (own.map (·.2)).contains i

mutual
def mE : P → Ct → Expr → Bool
  | .var i, c, e => (match e with | .Name x _ => visB c i x | _ => false)
  | .frz i, c, e => (match e with | .Name x _ => visB c i x | _ => false)
  | .cst d, _, e => (match d, e with
      | .int i, .Constant (.int j) _ _ => decide (i = j)
      | .bool i, .Constant (.bool j) _ _ => i == j
      | .str i, .Constant (.str j) _ _ => decide (i = j)
      | .none, .Constant .none _ _ => true
      | _, _ => false)
  | .glb x _, c, e => (match e with | .Name y _ => decide (y = x) && glB c x | _ => false)
  | .fnv x, c, e => (match e with | .Name y _ => decide (y = x) && glB c x | _ => false)
  | .bin o a b, c, e => (match e with | .BinOp x op y _ => opB o op && (mE a c x && mE b c y) | _ => false)
  | .neg a, c, e => (match e with | .UnaryOp .USub x _ => mE a c x | _ => false)
  | .nt a, c, e => (match e with | .UnaryOp .Not x _ => mE a c x | _ => false)
  | .cmp o a b, c, e => (match e with | .Compare x [op] [y] _ => copB o op && !behindInMarks op y && (mE a c x && mE b c y) | _ => false)
  | .chn o o' a b d, c, e => (match e with | .Compare x [op, op'] [y, z] _ => copB o op && copB o' op' && !lastMarks [op, op'] [y, z] && (mE a c x && (mE b c y && mE d c z)) | _ => false)
  | .bop an ps, c, e => (match e with | .BoolOp op es _ => boB an op && !es.isEmpty && mEs ps c es | _ => false)
  | .ife t a b, c, e => (match e with | .IfExp x y z _ => mE t c x && (mE a c y && mE b c z) | _ => false)
  | .call fe ps, c, e => (match e with | .Call (.Name x _) es [] _ => decide (x = fe.name) && glB c x && c.calm && !es.isEmpty && mEs ps c es | _ => false)
  | .call0 fe, c, e => (match e with | .Call (.Name x _) [] [] _ => decide (x = fe.name) && glB c x && c.calm | _ => false)
  | .blt b ps, c, e => (match e with | .Call (.Name x _) es [] _ => (match b.nm with | some (y, _) => decide (x = y) | none => false) && bltB c x && c.calm && !es.isEmpty && mEs ps c es | _ => false)
  | .lset a, c, e => (match e with | .Call (.Name f _) [.Call (.Name g _) [x] [] _] [] _ => decide (f = "len") && decide (g = "set") && bltB c f && bltB c g && c.calm && ns x && mE a c x | _ => false)
  | .lrg1 a, c, e => (match e with | .Call (.Name f _) [.Call (.Name g _) [x] [] _] [] _ => decide (f = "list") && decide (g = "range") && bltB c f && bltB c g && c.calm && ns x && mE a c x | _ => false)
  | .lrg2 a b, c, e => (match e with | .Call (.Name f _) [.Call (.Name g _) [x, y] [] _] [] _ => decide (f = "list") && decide (g = "range") && bltB c f && bltB c g && c.calm && ns x && ns y && (mE a c x && mE b c y) | _ => false)
  | .isi a t, c, e => (match e with | .Call (.Name f _) [x, .Name y _] [] _ => decide (f = "isinstance") && decide (y = (t.name : Str)) && bltB c f && bltB c y && ns x && mE a c x | _ => false)
  | .idx a b, c, e => (match e with | .Subscript x y _ => ixOk y && (mE a c x && mE b c y) | _ => false)
  | .slc a lo hi, c, e => (match e with | .Subscript x (.Slice l u none _) _ => mE a c x && (mO lo c l && mO hi c u) | _ => false)
  | .tup ps, c, e => (match e with | .Tuple es _ _ => decide (ps.len ≤ 1000) && mEs ps c es | _ => false)
  | .lst ps, c, e => (match e with | .List es _ => decide (ps.len ≤ 1000) && mEs ps c es | _ => false)
  | .newl ps, c, e => (match e with | .List es _ => decide (ps.len ≤ 1000) && mEs ps c es | _ => false)
  | .mth m a ps, c, e => (match e with | .Call (.Attribute x nm ap) es [] p => (match m with | .count => decide (nm = "count") | .index => decide (nm = "index") | .indexT => decide (nm = "index") | .join => decide (nm = "join") | .split => decide (nm = "split")) && baseOk x && (ap.endLine == p.line) && !es.isEmpty && decide (es.length < 30) && (mE a c x && mEs ps c es) | _ => false)
  | .app i a, c, e => (match e with | .Call (.Attribute (.Name x _) nm ap) [y] [] p => decide (nm = "append") && visB c i x && (ap.endLine == p.line) && ns y && mE a c y | _ => false)
  | .ext i a, c, e => (match e with | .Call (.Attribute (.Name x _) nm ap) [y] [] p => decide (nm = "extend") && visB c i x && (ap.endLine == p.line) && ns y && mE a c y | _ => false)
  | .popA i a, c, e => (match e with | .Call (.Attribute (.Name x _) nm ap) [y] [] p => decide (nm = "pop") && visB c i x && (ap.endLine == p.line) && ns y && mE a c y | _ => false)
  | .pop i, c, e => (match e with | .Call (.Attribute (.Name x _) nm ap) [] [] p => decide (nm = "pop") && visB c i x && (ap.endLine == p.line) | _ => false)
  | .newd ks ps, c, e => (match e with | .Dict keys vals _ => !keys.isEmpty && decide (keys.length ≤ 15) && mK ps ks c keys vals | _ => false)
  | .dget a b, c, e => (match e with | .Subscript x y _ => ixOk y && (mE a c x && mE b c y) | _ => false)
  | .lc own g it t el, c, e => (match e with
      | .ListComp elt [⟨tg, iter, ifs, as⟩] scope _ => decide (as = 0) && c.calm && blkC c.N c.sc scope own && nset iter && subB g.slots own && ((tgOk it tg && mI it c iter) && (mG (c.blk scope) g tg && (mT t (c.blk scope) ifs && mE el (c.blk scope) elt)))
      | _ => false)
  | .lc2 own g it g1 it1 t el, c, e => (match e with
      | .ListComp elt [⟨tg, iter, ifs0, as⟩, ⟨tg1, iter1, ifs, as1⟩] scope _ => decide (as = 0) && decide (as1 = 0) && ifs0.isEmpty && c.calm && blkC c.N c.sc scope own && nset iter && nset iter1 && subB g.slots own && subB g1.slots own &&
          ((tgOk it tg && mI it c iter) && (mG (c.blk scope) g tg && ((tgOk it1 tg1 && mI it1 (c.blk scope) iter1) && (mG (c.blk scope) g1 tg1 && (mT t (c.blk scope) ifs && mE el (c.blk scope) elt)))))
      | _ => false)
  | .newlc a, c, e => (match e with | .Call (.Name f _) [x] [] _ => decide (f = "list") && bltB c f && ns x && mE a c x | _ => false)
  | .newd0, _, e => (match e with | .Dict [] [] _ => true | _ => false)
  | .dget2 a k d, c, e => (match e with | .Call (.Attribute x nm ap) [y, z] [] p => decide (nm = "get") && baseOk x && (ap.endLine == p.line) && ns y && ns z && (mE a c x && (mE k c y && mE d c z)) | _ => false)
  | .rev a, c, e => (match e with | .Subscript x (.Slice none none (some (.UnaryOp .USub (.Constant (.int i) _ _) _)) _) _ => decide (i = 1) && mE a c x | _ => false)
  | .callx fes w ps, c, e => (match e with | .Call (.Subscript (.List fs _) y _) es [] _ => ixOk y && c.calm && fnsB (glB c) fes fs && !es.isEmpty && decide (fes.length ≤ 1000) && (mE w c y && mEs ps c es) | _ => false)
  | .isx i _ C, c, e => (match e with | .Call (.Name f _) [.Name x _, .Name y _] [] _ => decide (f = "isinstance") && decide (y = C) && bltB c f && glB c y && !c.calm && visB c i x | _ => false)
  | .calls fs ps, c, e => (match e with | .Call (.Name x _) es [] _ => decide (x = fs.name) && glB c x && c.calm && !es.isEmpty && mEs ps c es | _ => false)
  | .mcall _ fs a ps, c, e => (match e with | .Call (.Attribute x nm ap) es [] p => decide (nm = fs.name) && baseOk x && (ap.endLine == p.line) && decide (es.length < 30) && c.calm && (mE a c x && mEs ps c es) | _ => false)
  | .make C _ ps, c, e => (match e with | .Call (.Name x _) es [] _ => decide (x = C) && glB c x && c.calm && !es.isEmpty && mEs ps c es | _ => false)
  | .attr _ a f, c, e => (match e with | .Attribute x nm _ => decide (nm = f) && baseOk x && mE a c x | _ => false)
  | .appE a b, c, e => (match e with | .Call (.Attribute x nm ap) [y] [] p => decide (nm = "append") && baseOk x && (ap.endLine == p.line) && ns y && (mE a c x && mE b c y) | _ => false)
  | .popE a, c, e => (match e with | .Call (.Attribute x nm ap) [] [] p => decide (nm = "pop") && baseOk x && (ap.endLine == p.line) && mE a c x | _ => false)
  | .lenO _ fs a, c, e => (match e with | .Call (.Name f _) [x] [] _ => decide (f = "len") && decide (fs.name = "__len__") && bltB c f && c.calm && ns x && mE a c x | _ => false)
  | .eqO ng _ fs a b, c, e => (match e with | .Compare x [op] [y] _ => eqoB ng op && !behindInMarks op y && decide (fs.name = "__eq__") && c.calm && (mE a c x && mE b c y) | _ => false)
  | .callN fe ps, c, e => (match e with | .Call (.Name x _) es [] _ => decide (x = fe.name) && glB c x && c.calm && !es.isEmpty && mEs ps c es | _ => false)
  | .sortA f i a, c, e => (match e with
      | .Call (.Name s _) [x] [⟨some k, .Lambda ⟨[], [⟨one, none, _⟩], none, [], [], none, []⟩ (.Call (.Name ab _) [.BinOp (.Name one' _) .Sub (.Name y _) _] [] _) scope _, _⟩] _ =>
          (decide (s = "sorted") && decide (k = "key") && decide (ab = "abs") && decide (one' = one) && decide (one = "one")) && (bltB c s && visB c i y && lam1B c.sc scope one y && c.calm && decide (c.me = some f)) && (ns x && mE a c x)
      | _ => false)
  | .lstL ps, c, e => (match e with | .List es _ => decide (ps.len ≤ 1000) && mEs ps c es | _ => false)
  | .insA i a b, c, e => (match e with | .Call (.Attribute (.Name x _) nm ap) [y, z] [] p => decide (nm = "insert") && visB c i x && (ap.endLine == p.line) && ns y && ns z && (mE a c y && mE b c z) | _ => false)
  | .isw a C, c, e => (match e with | .Call (.Name f _) [x, .Name y _] [] _ => decide (f = "isinstance") && decide (y = C) && bltB c f && glB c y && ns x && mE a c x | _ => false)
  | .callC fes i, c, e => (match e with | .Call (.Name x _) [] [] _ => visB c i x && c.calm && !fes.isEmpty | _ => false)
  | .callH fe i, c, e => (match e with | .Call (.Name g _) [.Name x _] [] _ => decide (g = fe.name) && glB c g && !c.calm && visB c i x | _ => false)
  | .isv i _, c, e => (match e with | .Call (.Name f _) [.Name x _, .Name y _] [] _ => decide (f = "isinstance") && decide (y = "ValueError") && bltB c f && bltB c y && !c.calm && visB c i x | _ => false)
  | .allM fe f _ _ ps nm, c, e => (match e with
      | .Call (.Name g _) [.Call (.Name h _) es [] _, .Constant (.str z) _ _] [] _ => decide (g = fe.name) && decide (h = f) && decide (z = nm) && glB c g && glB c h && c.calm && decide (fe.ps.length = 2) && c.me.isSome && !es.isEmpty && mEs ps c es
      | _ => false)
  | .allL fe f l nm, c, e => (match e with
      | .Call (.Name g _) [.List [.Lambda ⟨[], [], none, [], [], none, []⟩ body scope _] _, .Constant (.str z) _ _] [] _ => decide (g = fe.name) && decide (z = nm) && glB c g && c.calm && decide (fe.ps.length = 2) && decide (c.me = some f) && lamB c.N c.sc l body scope
      | _ => false)
def mEs : Ps → Ct → List Expr → Bool
  | .nil, _, es => es.isEmpty
  | .cons a r, c, es => (match es with | e :: es => ns e && (mE a c e && mEs r c es) | [] => false)
def mK : Ps → List Str → Ct → List (Option Expr) → List Expr → Bool
  | .nil, ks, _, keys, vals => ks.isEmpty && (keys.isEmpty && vals.isEmpty)
  | .cons a r, ks, c, keys, vals => (match ks, keys, vals with | k :: ks, some (.Constant (.str k') _ _) :: keys, v :: vals => decide (k = k') && (mE a c v && mK r ks c keys vals) | _, _, _ => false)
def mO : O → Ct → Option Expr → Bool
  | .no, _, e => e.isNone
  | .yes a, c, e => (match e with | some x => mE a c x | none => false)
def mT : O → Ct → List Expr → Bool
  | .no, _, e => e.isEmpty
  | .yes a, c, e => (match e with | [x] => mE a c x | _ => false)
def mI : It → Ct → Expr → Bool
  | .ex a, c, e => mE a c e
  | .rg1 a, c, e => (match e with | .Call (.Name f _) [x] [] _ => decide (f = "range") && bltB c f && ns x && mE a c x | _ => false)
  | .rg2 a b, c, e => (match e with | .Call (.Name f _) [x, y] [] _ => decide (f = "range") && bltB c f && ns x && ns y && (mE a c x && mE b c y) | _ => false)
  | .enm a, c, e => (match e with | .Call (.Name f _) [x] [] _ => decide (f = "enumerate") && bltB c f && ns x && mE a c x | _ => false)
  | .exs a, c, e => mE a c e
  | .zp3 ps, c, e => (match e with | .Call (.Name f _) [x, y, z] [] _ => decide (f = "zip") && bltB c f && mEs ps c [x, y, z] | _ => false)
end

/-- the call that is handed a list of lambdas -/
def allB (fe : FE) (f : Str) (i : Nat) (ls : List Lam) (nm : Str) (c : Ct) (pre : List Stmt) (e : Expr) : Bool := match e with
  | .Call (.Name g _) [.Name x _, .Constant (.str z) _ _] [] _ => decide (g = fe.name) && decide (z = nm) && glB c g && c.calm && storB c i x && okN x && decide (fe.ps.length = 2) && decide (c.me = some f) && decide (ls.length ≤ 1000) && mBlk c.N c.sc x ls pre
  | _ => false
def ifB (fe : FE) (f : Str) (i : Nat) (ls : List Lam) (nm : Str) (c : Ct) (pre : List Stmt) (rest : List Stmt) : Bool := match rest with
  | .If (.UnaryOp .Not e _) [.Return (some (.Constant (.bool false) _ _)) _] [] _ :: _ => allB fe f i ls nm c pre e
  | _ => false
mutual
def mS : Sx → Ct → Stmt → Bool
  | .lamI _ _ _ _ _, _, _ => false
  | .lamR _ _ _ _ _ _, _, _ => false
  | .asg g a, c, st => (match st with
      | .Assign [.Name x p] e _ => mG c g (.Name x p) && mE a c e && (match e with
          | .ListComp _ _ scope pos => c.calm && ((locB c x && (p.line == pos.line) && !(scope.names.any fun (n, k) => n == x && (k == .local || k == .cell))) || !locB c x)
          | e => nlc e)
      | .Assign [.Tuple ts k p] e _ => mG c g (.Tuple ts k p) && mE a c e && (ntup e || ts.any fun t => match t with | .Name x _ => !locB c x | _ => false)
      | _ => false)
  | .par i j a b, c, st => (match st with
      | .Assign [.Tuple [.Name x px, .Name y py] _ _] (.Tuple [ea, eb] _ _) _ => decide (c.N[i]? = some x) && decide (c.N[j]? = some y) && !decide (i = j) && locB c x && locB c y && !(x == y) && (py.line == px.line) && ns ea && ns eb && c.calm &&
          !([ea, eb].all (foldedForSure 8)) && !([ea, eb].all (constantsAlone 8)) && (mE a c ea && mE b c eb)
      | _ => false)
  | .par3 i j l a b d, c, st => (match st with
      | .Assign [.Tuple [.Name x px, .Name y py, .Name z pz] _ _] (.Tuple [ea, eb, ed] _ _) _ => (decide (c.N[i]? = some x) && decide (c.N[j]? = some y) && decide (c.N[l]? = some z)) && (!decide (i = j) && !decide (i = l) && !decide (j = l)) && (locB c x && locB c y && locB c z) && (!(x == y) && !(x == z) && !(y == z)) && ((py.line == px.line) && (pz.line == px.line)) && (ns ea && ns eb && ns ed) && c.calm &&
          (!([ea, eb, ed].all (foldedForSure 8)) && !([ea, eb, ed].all (constantsAlone 8))) && (mE a c ea && mE b c eb && mE d c ed)
      | _ => false)
  | .expr a, c, st => (match st with | .Expr e _ => nlc e && mE a c e | _ => false)
  | .ite t a b, c, st => (match st with | .If e sa sb _ => mE t c e && (mSs a c sa && mSs b c sb) | _ => false)
  | .ret a, c, st => (match st with | .Return (some e) _ => mE a c e | _ => false)
  | .retN, _, st => (match st with | .Return none _ => true | _ => false)
  | .forr g it b, c, st => (match st with | .For tg iter body [] _ => c.calm && nset iter && ((tgOk it tg && mI it c iter) && (mG c g tg && mSs b c body)) | _ => false)
  | .whil _ t b, c, st => (match st with | .While e body [] _ => mE t c e && mSs b c body | _ => false)
  | .rais x, c, st => (match st with | .Raise (some (.Call (.Name y _) [.Constant (.str _) _ _] [] _)) none _ => decide (y = x) && glB c x && c.calm | _ => false)
  | .pass, _, st => (match st with | .Pass _ => true | _ => false)
  | .dput a k v, c, st => (match st with | .Assign [.Subscript x y _] e _ => nlc e && (mE v c e && (mE a c x && mE k c y)) | _ => false)
  | .tryx _ C i body hand, c, st => (match st with
      | .Try bd [.ExceptHandler (some (.Name y _)) (some n) hd _] [] [] _ => decide (y = C) && glB c C && c.calm && c.top && decide (c.N[i]? = some n) && locB c n && !hd.isEmpty && (mSs body c bd && mSs hand c.suite hd)
      | _ => false)
  | .setf _ a f v, c, st => (match st with | .Assign [.Attribute x nm _] e _ => decide (nm = f) && nlc e && (mE v c e && mE a c x) | _ => false)
  | .setf2 _ a f b g x y, c, st => (match st with
      | .Assign [.Tuple [.Attribute o1 f1 _, .Attribute o2 g1 _] _ _] (.Tuple [e1, e2] _ _) _ => decide (f1 = f) && decide (g1 = g) && c.calm && ns e1 && ns e2 && ((mE x c e1 && mE y c e2) && (mE a c o1 && mE b c o2))
      | _ => false)
def mSs : Ss → Ct → List Stmt → Bool
  | .nil, _, sts => sts.isEmpty
  | .cons a r, c, sts => (match a with
      | .lamI fe f i ls nm => ifB fe f i ls nm c (sts.take ls.length) (sts.drop ls.length) && mSs r c ((sts.drop ls.length).drop 1)
      | .lamR fe f i ls nm p => (match r with | .nil => true | _ => false) && (match sts.drop ls.length with
        | [.Return (some (.BoolOp .And [e, e2] _)) _] => allB fe f i ls nm c (sts.take ls.length) e && mE p c e2
        | _ => false)
      | _ => (match sts with | st :: sts => mS a c st && mSs r c sts | [] => false))
end

/-! ### what a text leans on -/
inductive Ask where
  | fn (fe : FE)
  | glb (x : Str) (d : PyData)
  | fnv (x : Str)
  | exc (x : Str)
  | isx (cs : List Str) (C : Str)
  | tri (cs : List Str) (C : Str)
  | fns (fs : FS)
  | fnm (C : Str) (fs : FS)
  | mk (C : Str) (fs : FS)
  | atr (C f : Str)
  | fnl (C : Str) (fs : FS)
  | isw (C : Str)
  | fnN (fe : FE)
  | lam (f : Str)
  | fnC (fe : FE)
  | fnH (fe : FE)
  | isv (cs : List Str)
  | mkr (f : Str) (n : Nat) (ls : List Lam)
mutual
def fE (A : Ask → Prop) : P → Prop
  | .var _ => True
  | .frz _ => True
  | .cst _ => True
  | .glb x d => A (.glb x d)
  | .fnv x => A (.fnv x)
  | .bin _ a b => fE A a ∧ fE A b
  | .neg a => fE A a
  | .nt a => fE A a
  | .cmp _ a b => fE A a ∧ fE A b
  | .chn _ _ a b c => fE A a ∧ fE A b ∧ fE A c
  | .bop _ ps => fEs A ps
  | .ife a b c => fE A a ∧ fE A b ∧ fE A c
  | .call fe ps => A (.fn fe) ∧ fEs A ps
  | .call0 fe => A (.fn fe)
  | .blt _ ps => fEs A ps
  | .lset a => fE A a
  | .lrg1 a => fE A a
  | .lrg2 a b => fE A a ∧ fE A b
  | .isi a _ => fE A a
  | .idx a b => fE A a ∧ fE A b
  | .slc a lo hi => fE A a ∧ fO A lo ∧ fO A hi
  | .tup ps => fEs A ps
  | .lst ps => fEs A ps
  | .newl ps => fEs A ps
  | .mth _ a ps => fE A a ∧ fEs A ps
  | .app _ a => fE A a
  | .ext _ a => fE A a
  | .popA _ a => fE A a
  | .pop _ => True
  | .newd _ ps => fEs A ps
  | .dget a b => fE A a ∧ fE A b
  | .lc _ _ it c e => fI A it ∧ fO A c ∧ fE A e
  | .lc2 _ _ it _ it1 c e => fI A it ∧ fI A it1 ∧ fO A c ∧ fE A e
  | .rev a => fE A a
  | .newlc a => fE A a
  | .newd0 => True
  | .dget2 a k d => fE A a ∧ fE A k ∧ fE A d
  | .callx fes w ps => (∀ fe ∈ fes, A (.fn fe)) ∧ fE A w ∧ fEs A ps
  | .isx _ cs C => A (.isx cs C)
  | .calls fs ps => A (.fns fs) ∧ fEs A ps
  | .mcall C fs a ps => A (.fnm C fs) ∧ fE A a ∧ fEs A ps
  | .make C fs ps => A (.mk C fs) ∧ fEs A ps
  | .attr C a f => A (.atr C f) ∧ fE A a
  | .appE a b => fE A a ∧ fE A b
  | .popE a => fE A a
  | .lenO C fs a => A (.fnl C fs) ∧ fE A a
  | .eqO _ C fs a b => A (.fnl C fs) ∧ A (.isw C) ∧ fE A a ∧ fE A b
  | .isw a C => A (.isw C) ∧ fE A a
  | .callN fe ps => A (.fnN fe) ∧ fEs A ps
  | .lstL ps => fEs A ps
  | .sortA f _ a => A (.lam f) ∧ fE A a
  | .insA _ a b => fE A a ∧ fE A b
  | .callC fes _ => ∀ fe ∈ fes, A (.fnC fe)
  | .callH fe _ => A (.fnH fe)
  | .isv _ cs => A (.isv cs)
  | .allM fe f n ls ps _ => A (.fn fe) ∧ A (.mkr f n ls) ∧ fEs A ps
  | .allL fe f _ _ => A (.fn fe) ∧ A (.lam f)
def fEs (A : Ask → Prop) : Ps → Prop
  | .nil => True
  | .cons a r => fE A a ∧ fEs A r
def fO (A : Ask → Prop) : O → Prop
  | .no => True
  | .yes a => fE A a
def fI (A : Ask → Prop) : It → Prop
  | .ex a => fE A a
  | .rg1 a => fE A a
  | .rg2 a b => fE A a ∧ fE A b
  | .enm a => fE A a
  | .zp3 ps => fEs A ps
  | .exs a => fE A a
end
mutual
def fS (A : Ask → Prop) : Sx → Prop
  | .asg _ a => fE A a
  | .par _ _ a b => fE A a ∧ fE A b
  | .par3 _ _ _ a b c => fE A a ∧ fE A b ∧ fE A c
  | .expr a => fE A a
  | .ite c a b => fE A c ∧ fSs A a ∧ fSs A b
  | .ret a => fE A a
  | .retN => True
  | .forr _ it b => fI A it ∧ fSs A b
  | .whil _ c b => fE A c ∧ fSs A b
  | .rais c => A (.exc c)
  | .pass => True
  | .dput a k v => fE A v ∧ fE A a ∧ fE A k
  | .tryx cs C _ body hand => A (.tri cs C) ∧ fSs A body ∧ fSs A hand
  | .setf C a f v => A (.atr C f) ∧ fE A v ∧ fE A a
  | .setf2 C a f b g x y => A (.atr C f) ∧ A (.atr C g) ∧ fE A x ∧ fE A y ∧ fE A a ∧ fE A b
  | .lamI fe f _ _ _ => A (.fn fe) ∧ A (.lam f)
  | .lamR fe f _ _ _ a => A (.fn fe) ∧ A (.lam f) ∧ fE A a
def fSs (A : Ask → Prop) : Ss → Prop
  | .nil => True
  | .cons a r => fS A a ∧ fSs A r
end
def Know (X : Cx) (k : Nat) : Ask → Prop
  | .fn fe => Good X k fe
  | .glb x d => GlbOk X x d
  | .fnv x => X.mg x = some (.ref (He.ga X.K x))
  | .exc c => ExcOk X.K X.mg c
  | .isx cs C => X.mg C = some (.ref (He.ga X.K C)) ∧ ∀ c ∈ cs, PySem.W.kitOne X.K (.ref (He.ga X.K c)) (.ref (He.ga X.K C)) = some (decide (c = C))
  | .tri cs C => X.mg C = some (.ref (He.ga X.K C)) ∧ ∀ c ∈ cs, PySem.W.exmOne X.K (.ref (He.ga X.K c)) (.ref (He.ga X.K C)) = some true ∧ ExcC X.K (He.ga X.K c)
  | .fns fs => GoodS X k fs
  | .fnm C fs => GoodM X k C fs
  | .mk C fs => ∃ j, j + 1 ≤ k ∧ GoodI X j C fs
  | .atr C f => AtrOk X C f
  | .fnl C fs => ∃ j, j + 1 ≤ k ∧ GoodM X j C fs
  | .isw C => X.mg C = some (.ref (He.ga X.K C)) ∧ WCls X.K (He.ga X.K C)
  | .fnN fe => GoodN X k fe
  | .lam f => LamX.TabB X.base X.mg (He.cT X.K (f, none)).1 (tabA X.K f)
  | .fnC fe => ∃ j, j + 1 ≤ k ∧ Good X j fe
  | .fnH fe => GoodH X k fe
  | .isv cs => ∀ c ∈ cs, PySem.W.kitOne X.K (.ref (He.ga X.K c)) (.type "ValueError") = some true
  | .mkr f n ls => GoodMk X k f n ls

structure Okc (ex : ExK) (k : Nat) (c : Ct) (X : Cx) (W : WX) : Prop where
  N : X.N = c.N
  nd : X.N.Nodup
  sc : X.env.scope = c.sc
  kind : X.env.scope.kind = .function
  calm : c.calm = true → X.calm = true
  fn : ∀ x, c.fn x = true → X.fn x = true
  po : PassesOwn (model X.prog X.w) X.A X.env X.xe
  tk : Takes X W
  room : c.calm = true → Room k X.A
  un : X.A.units + 65 < cLine
  free : ∀ x ∈ bnames, X.mg x = none
  stk : c.top = true → X.stack = X.env :: X.outer ∧ X.env.frame = some X.env.locals
  exn : c.calm = true → ∀ a c', ¬ ex a c'
  exk : c.calm = false → HotI X ex
  rh : L2H.RoomH k X.A
  me : ∀ f, c.me = some f → X.env.code = .ref (He.cT X.K (f, none)).1 ∧ X.env.qual = f ++ ".<locals>." ∧ ∀ x, X.fn x = true

section
variable {X : Cx} {ex : ExK} {W : WX} {k : Nat} {c : Ct}
theorem okN_of {x : Str} (h : okN x = true) : (x == ("__debug__" : Str)) = false ∧ (x == ("__classdict__" : Str)) = false ∧ x ≠ "__name__" := by
  unfold okN at h
  simp only [Bool.and_eq_true, Bool.not_eq_true'] at h
  exact ⟨h.1.1, h.1.2, beq_eq_false_iff_ne.mp h.2⟩
theorem Okc.hex (o : Okc ex k c X W) (h : c.calm = true) : ex = E0x := funext fun a => funext fun c' => propext ⟨fun z => o.exn h a c' z, False.elim⟩
theorem Okc.vis (o : Okc ex k c X W) {i : Nat} {x : Str} (h : visB c i x = true) : X.N[i]? = some x ∧ Vis X.env.scope x ∧ (x == ("__debug__" : Str)) = false ∧ (x == ("__classdict__" : Str)) = false := by
  unfold visB at h
  simp only [Bool.and_eq_true, decide_eq_true_eq] at h
  obtain ⟨⟨h1, h2⟩, h3⟩ := h
  obtain ⟨d1, d2, _⟩ := okN_of h2
  refine ⟨by rw [o.N]; exact h1, ?_, d1, d2⟩
  unfold Vis
  rw [o.sc]
  split at h3 <;> first | exact .inl (by assumption) | exact .inr (.inl (by assumption)) | exact .inr (.inr (by assumption)) | cases h3
theorem Okc.gl (o : Okc ex k c X W) {x : Str} (h : glB c x = true) : Gl X x ∧ (x == ("__debug__" : Str)) = false ∧ x ≠ "__name__" := by
  unfold glB at h
  simp only [Bool.and_eq_true] at h
  obtain ⟨h2, h3⟩ := h
  obtain ⟨d1, _, d3⟩ := okN_of h2
  refine ⟨?_, d1, d3⟩
  show X.env.scope.names.lookup x = some .globalImplicit
  rw [o.sc]
  split at h3
  · assumption
  · cases h3
theorem Okc.blt (o : Okc ex k c X W) {x : Str} (h : bltB c x = true) : BltN X x ∧ (x == ("__debug__" : Str)) = false ∧ x ≠ "__name__" := by
  unfold bltB at h
  simp only [Bool.and_eq_true, decide_eq_true_eq] at h
  obtain ⟨g1, g2, g3⟩ := o.gl h.1
  exact ⟨⟨g1, o.free x h.2⟩, g2, g3⟩
theorem Okc.stor (o : Okc ex k c X W) {i : Nat} {x : Str} (h : storB c i x = true) : Stor X i x := by
  unfold storB at h
  simp only [Bool.and_eq_true, decide_eq_true_eq] at h
  obtain ⟨h1, h3⟩ := h
  refine ⟨by rw [o.N]; exact h1, ?_⟩
  unfold L2.Loc
  rw [o.sc]
  split at h3
  · rename_i q; exact ⟨.inl q, .inr q⟩
  · rename_i q; exact ⟨.inr q, .inl (o.fn x h3)⟩
  · cases h3
theorem Okc.loc (o : Okc ex k c X W) {x : Str} (h : locB c x = true) : X.env.scope.names.lookup x = some .local := by
  unfold locB at h
  rw [o.sc]
  split at h
  · assumption
  · cases h
theorem Okc.noloc (o : Okc ex k c X W) {x : Str} (h : locB c x = false) : X.env.kindOf x ≠ some .local := by
  intro z
  have z' : X.env.scope.names.lookup x = some .local := z
  unfold locB at h
  rw [← o.sc, z'] at h
  cases h
theorem names_of (o : Okc ex k c X W) : ∀ {is : List Nat} {es : List Expr}, namesB c is es = true → NamesAre X is es
  | [], [], _ => trivial
  | [], _ :: _, h => by cases h
  | _ :: _, [], h => by cases h
  | i :: is, e :: es, h => by
    unfold namesB at h
    simp only [Bool.and_eq_true] at h
    cases e with
    | Name x p => exact ⟨o.stor h.1, names_of o h.2⟩
    | _ => simp at h
theorem sG (o : Okc ex k c X W) {g : Tg} {e : Expr} (h : mG c g e = true) : DG X ex g e := by
  unfold mG at h
  split at h
  · exact dg_name o.nd (o.stor h)
  · simp only [Bool.and_eq_true] at h
    exact dg_tup (o.calm h.1) o.nd (names_of o h.2)
  · cases h
theorem sub_of {is : List Nat} {own : List (Str × Nat)} (h : subB is own = true) : ∀ i ∈ is, i ∈ own.map (·.2) := fun i hi => by
  have := List.all_eq_true.mp h i hi
  simpa using this
theorem okc_bk (o : Okc ex k c X W) (hcl : c.calm = true) {scope : Scope} (hk : scope.kind = .function) {s : Shared} {H : Hp} {C : Addr} {cl : List (Str × Addr)} {fp : List Addr} : Okc ex k (c.blk scope) (Cx.bk X scope s H C cl fp) W0 where
  N := o.N
  nd := o.nd
  sc := by
    show relS scope X.env.scope = relS scope c.sc
    rw [o.sc]
  kind := hk
  calm := o.calm
  fn := fun x h => h
  po := PassesOwn.never
  tk := takes0
  room := o.room
  rh := o.rh
  un := o.un
  free := o.free
  stk := fun z => nomatch z
  exn := o.exn
  exk := fun z => by
    have z' : c.calm = false := z
    rw [hcl] at z'; cases z'
  me := fun _ z => nomatch z
theorem okc_tr (o : Okc ex k c X W) {W' : WX} {pn : List (Addr × Obj)} {xe : Value → Shared → Prop} (tk : Takes (X.tr pn xe) W') (po : PassesOwn (model X.prog X.w) X.A X.env xe) (hcl : c.calm = true) : Okc ex k c (X.tr pn xe) W' where
  N := o.N
  nd := o.nd
  sc := o.sc
  kind := o.kind
  calm := o.calm
  fn := o.fn
  po := po
  tk := tk
  room := o.room
  rh := o.rh
  un := o.un
  free := o.free
  stk := o.stk
  exn := o.exn
  exk := fun z => by rw [hcl] at z; cases z
  me := o.me
theorem know_tr {pn : List (Addr × Obj)} {xe : Value → Shared → Prop} : Know (X.tr pn xe) k = Know X k := by
  funext a
  cases a <;> rfl
theorem okc_suite (o : Okc ex k c X W) {a : Addr} {oe : Obj} {c1 : Str} {pn : List (Addr × Obj)} (E : ExcC X.K (He.ga X.K c1)) (hz : Zc (.ref (He.ga X.K c1)) none oe) (hv : ∃ vs, oe.data = .fields vs) : Okc (fun a' c' => a' = a ∧ c' = c1) k c.suite (X.suite a ((a, oe) :: pn)) (fun _ _ _ _ => False) where
  N := o.N
  nd := o.nd
  sc := o.sc
  kind := o.kind
  calm := fun z => nomatch z
  fn := o.fn
  po := PassesOwn.never
  tk := takes0
  room := fun z => nomatch z
  rh := ⟨o.rh.dp, o.rh.un⟩
  un := o.un
  free := o.free
  stk := fun z => nomatch z
  exn := fun z => nomatch z
  exk := fun _ a' c' z => by
    obtain ⟨rfl, rfl⟩ := z
    exact ⟨oe, List.mem_cons_self, hz, hv, E⟩
  me := fun _ z => nomatch z
theorem know_suite {a : Addr} {pn : List (Addr × Obj)} : Know (X.suite a pn) k = Know X k := by
  funext a
  cases a <;> rfl
theorem know_bk {scope : Scope} {s : Shared} {H : Hp} {C : Addr} {cl : List (Str × Addr)} {fp : List Addr} : Know (Cx.bk X scope s H C cl fp) k = Know X k := by
  funext a
  cases a <;> rfl
theorem blk_of (o : Okc ex k c X W) {scope : Scope} {own : List (Str × Nat)} (h : blkC c.N c.sc scope own = true) : BlkOk X.N X.env.scope scope own := by
  rw [o.N, o.sc]
  exact blkOk_by h

/-- an assignment of a comprehension to a plain local -/
def DL (X : Cx) (ex : ExK) (W : WX) (p : P) (e : Expr) : Prop := ∀ elt gs scope pos, e = .ListComp elt gs scope pos → ∀ i y py spos, X.N[i]? = some y → X.env.scope.names.lookup y = some .local → (py.line == pos.line) = true →
  (scope.names.any fun (n, k) => n == y && (k == .local || k == .cell)) = false → DS X ex W (.asg (.name i) p) (.Assign [.Name y py] e spos)
def D3 (X : Cx) (ex : ExK) (W : WX) (p : P) (e : Expr) : Prop := DE X ex W p e ∧ DT X ex W p e ∧ DL X ex W p e
theorem d3 {p : P} {e : Expr} (h : DE X ex W p e) (he : ∀ whole, isTrue e X.env whole = (do let v ← whole; standAt e.pos; holding [v] (truthy v))) (hl : nlc e = true) : D3 X ex W p e :=
  ⟨h, dt_val h he, fun _ _ _ _ z => by subst z; cases hl⟩
theorem good_up {fe : FE} (h : ∃ j, j + 1 ≤ k ∧ Good X j fe) : Good X (k - 1) fe := by
  obtain ⟨j, hj, f, fd, h1, h2, h3, h4⟩ := h
  exact ⟨f, fd, h1, h2, h3, h4.mono (by omega)⟩
theorem all_of {fe : FE} {f : Str} {i : Nat} {ls : List Lam} {nm : Str} {pre : List Stmt} {e : Expr} (o : Okc ex k c X W) (h : allB fe f i ls nm c pre e = true) : ∃ x j p p1 p2 p3, e = .Call (.Name fe.name p) [.Name x p1, .Constant (.str nm) j p2] [] p3 ∧ Gl X fe.name ∧ (fe.name == ("__debug__" : Str)) = false ∧ Room k X.A ∧ Stor X i x ∧ (x == ("__debug__" : Str)) = false ∧ (x == ("__classdict__" : Str)) = false ∧ fe.ps.length = 2 ∧ c.me = some f ∧ ls.length ≤ 1000 ∧ mBlk X.N X.env.scope x ls pre = true := by
  unfold allB at h
  split at h
  · simp only [Bool.and_eq_true, decide_eq_true_eq] at h
    obtain ⟨⟨⟨⟨⟨⟨⟨⟨⟨rfl, rfl⟩, h1⟩, h2⟩, h3⟩, h4⟩, h5⟩, h6⟩, h7⟩, h8⟩ := h
    exact ⟨_, _, _, _, _, _, rfl, (o.gl h1).1, (o.gl h1).2.1, o.room h2, o.stor h3, (okN_of h4).1, (okN_of h4).2.1, h5, h6, h7, by rw [o.N, o.sc]; exact h8⟩
  · cases h
theorem cop_of {o : Cop} {op : CmpOp} (h : copB o op = true) : op = o.op := by
  cases o <;> cases op <;> first | rfl | cases h
theorem bop_of {o : Bop} {op : Operator} (h : opB o op = true) : op = o.op := by
  cases o <;> cases op <;> first | rfl | cases h
theorem bo_of {a : Bool} {op : BoolOp} (h : boB a op = true) : op = bo a := by
  cases a <;> cases op <;> first | rfl | cases h
theorem blt_de (hun : X.A.units + 65 < cLine) {b : Blt} {x y : Str} {t : Bool} {ps : Ps} {e : Expr} {es : List Expr} {p pos : Pos} (hn : b.nm = some (y, t)) (hx : x = y) (hca : X.calm = true) (hb : BltN X x) (hdb : (x == ("__debug__" : Str)) = false) (hnm : x ≠ "__name__") (hns : (e :: es).all ns = true) (ha : DA X ex W ps (e :: es)) :
    DE X ex W (.blt b ps) (.Call (.Name x p) (e :: es) [] pos) := by
  subst hx
  cases b <;> simp only [Blt.nm] at hn <;> (try cases hn)
  · exact de_blt len_ok hb (by decide +kernel) hnm hdb hns ha
  · exact de_blt (max2_ok hca) hb (by decide +kernel) hnm hdb hns ha
  · exact de_blt (min2_ok hca) hb (by decide +kernel) hnm hdb hns ha
  · exact de_blt (maxL_ok hca) hb (by decide +kernel) hnm hdb hns ha
  · exact de_blt abs_ok hb (by decide +kernel) hnm hdb hns ha
  · exact de_bltT list_ok hb (by decide +kernel) hnm hdb hns ha
  · exact de_bltT tuple_ok hb (by decide +kernel) hnm hdb hns ha
  · exact de_blt (all_ok hca) hb (by decide +kernel) hnm hdb hns ha
  · exact de_blt (any_ok hca) hb (by decide +kernel) hnm hdb hns ha
  · exact de_blt sortS_ok hb (by decide +kernel) hnm hdb hns ha
  · exact de_bltT str_ok hb (by decide +kernel) hnm hdb hns ha
  · exact de_bltT int_ok hb (by decide +kernel) hnm hdb hns ha
  · exact de_blt (minL_ok hca hun) hb (by decide +kernel) hnm hdb hns ha
  · exact de_blt sortI_ok hb (by decide +kernel) hnm hdb hns ha
theorem len_of {ps : Ps} (h : ps.len ≤ 1000) : ∀ r S us S', evalEs ps r S = .ok us S' → us.length ≤ 1000 := fun r S us S' e => by
  rw [evalEs_len e]; exact h
theorem mEs_ns : ∀ {ps : Ps} {c : Ct} {es : List Expr}, mEs ps c es = true → es.all ns = true
  | .nil, c, es, h => by
    simp only [mEs] at h
    rw [List.isEmpty_iff.mp h]; rfl
  | .cons a r, c, es, h => by
    cases es with
    | nil => simp [mEs] at h
    | cons e es =>
      simp only [mEs, Bool.and_eq_true] at h
      simp only [List.all_cons, Bool.and_eq_true]
      exact ⟨h.1, mEs_ns h.2.2⟩
end
mutual
theorem sE {ex : ExK} {k : Nat} : ∀ (p : P) (c : Ct) (e : Expr) (X : Cx) (W : WX), Okc ex k c X W → fE (Know X k) p → mE p c e = true → D3 X ex W p e
  | .var i, c, e, X, W, o, f, h => by
    simp only [mE] at h
    split at h
    · obtain ⟨h1, h2, h3, h4⟩ := o.vis h
      exact d3 (de_var h1 h2 h3 h4) (fun _ => rfl) rfl
    · cases h
  | .frz i, c, e, X, W, o, f, h => by
    simp only [mE] at h
    split at h
    · obtain ⟨h1, h2, h3, h4⟩ := o.vis h
      exact d3 (de_frz h1 h2 h3 h4) (fun _ => rfl) rfl
    · cases h
  | .cst d, c, e, X, W, o, f, h => by
    simp only [mE] at h
    split at h
    · cases (of_decide_eq_true h); exact d3 de_int (fun _ => rfl) rfl
    · cases (eq_of_beq h); exact d3 de_bool (fun _ => rfl) rfl
    · cases (of_decide_eq_true h); exact d3 de_str (fun _ => rfl) rfl
    · exact d3 de_none (fun _ => rfl) rfl
    · cases h
  | .glb x d, c, e, X, W, o, f, h => by
    simp only [mE] at h
    split at h
    · simp only [Bool.and_eq_true, decide_eq_true_eq] at h
      obtain ⟨rfl, h⟩ := h
      obtain ⟨g1, g2, g3⟩ := o.gl h
      exact d3 (de_glb g1 f g2) (fun _ => rfl) rfl
    · cases h
  | .fnv x, c, e, X, W, o, f, h => by
    simp only [mE] at h
    split at h
    · simp only [Bool.and_eq_true, decide_eq_true_eq] at h
      obtain ⟨rfl, h⟩ := h
      obtain ⟨g1, g2, g3⟩ := o.gl h
      exact d3 (de_fnv g1 f g2) (fun _ => rfl) rfl
    · cases h
  | .bin op a b, c, e, X, W, o, f, h => by
    simp only [mE] at h
    split at h
    · simp only [Bool.and_eq_true] at h
      cases bop_of h.1
      exact d3 (de_bin (sE a c _ X W o f.1 h.2.1).1 (sE b c _ X W o f.2 h.2.2).1) (fun _ => rfl) rfl
    · cases h
  | .neg a, c, e, X, W, o, f, h => by
    simp only [mE] at h
    split at h
    · exact d3 (de_neg (sE a c _ X W o f h).1) (fun _ => rfl) rfl
    · cases h
  | .nt a, c, e, X, W, o, f, h => by
    simp only [mE] at h
    split at h
    · have q := sE (ex := ex) a c _ X W o f h
      exact ⟨de_not q.1, dt_not q.2.1, fun _ _ _ _ z => by cases z⟩
    · cases h
  | .cmp op a b, c, e, X, W, o, f, h => by
    simp only [mE] at h
    split at h
    · simp only [Bool.and_eq_true, Bool.not_eq_true'] at h
      cases cop_of h.1.1
      have qa := (sE (ex := ex) a c _ X W o f.1 h.2.1).1
      have qb := (sE (ex := ex) b c _ X W o f.2 h.2.2).1
      exact ⟨de_cmp o.un h.1.2 qa qb, dt_cmp o.un h.1.2 qa qb, fun _ _ _ _ z => by cases z⟩
    · cases h
  | .chn op op' a b d, c, e, X, W, o, f, h => by
    simp only [mE] at h
    split at h
    · simp only [Bool.and_eq_true, Bool.not_eq_true'] at h
      cases cop_of h.1.1.1
      cases cop_of h.1.1.2
      have qa := (sE (ex := ex) a c _ X W o f.1 h.2.1).1
      have qb := (sE (ex := ex) b c _ X W o f.2.1 h.2.2.1).1
      have qd := (sE (ex := ex) d c _ X W o f.2.2 h.2.2.2).1
      exact ⟨de_chn o.un h.1.2 qa qb qd, dt_chn o.un h.1.2 qa qb qd, fun _ _ _ _ z => by cases z⟩
    · cases h
  | .bop an ps, c, e, X, W, o, f, h => by
    simp only [mE] at h
    split at h
    · rename_i op es pos
      simp only [Bool.and_eq_true, Bool.not_eq_true'] at h
      cases bo_of h.1.1
      have hne : es ≠ [] := fun z => by rw [z] at h; simp at h
      have q := (sEs (ex := ex) ps c es X W o f h.2).2 hne an pos
      exact ⟨db_de q.1, dtb_dt q.2, fun _ _ _ _ z => by cases z⟩
    · cases h
  | .ife t a b, c, e, X, W, o, f, h => by
    simp only [mE] at h
    split at h
    · simp only [Bool.and_eq_true] at h
      have qt := (sE (ex := ex) t c _ X W o f.1 h.1).2.1
      have qa := (sE (ex := ex) a c _ X W o f.2.1 h.2.1)
      have qb := (sE (ex := ex) b c _ X W o f.2.2 h.2.2)
      exact ⟨de_ife qt qa.1 qb.1, dt_ife qt qa.2.1 qb.2.1, fun _ _ _ _ z => by cases z⟩
    · cases h
  | .call fe ps, c, e, X, W, o, f, h => by
    simp only [mE] at h
    split at h
    · rename_i x p es pos
      simp only [Bool.and_eq_true, decide_eq_true_eq, Bool.not_eq_true'] at h
      obtain ⟨⟨⟨⟨rfl, h2⟩, h3⟩, h4⟩, h5⟩ := h
      obtain ⟨g1, g2, g3⟩ := o.gl h2
      cases es with
      | nil => simp at h4
      | cons e es => exact d3 (de_call f.1 (o.room h3) g1 g2 o.tk (mEs_ns h5) (sEs ps c _ X W o f.2 h5).1) (fun _ => rfl) rfl
    · cases h
  | .call0 fe, c, e, X, W, o, f, h => by
    simp only [mE] at h
    split at h
    · simp only [Bool.and_eq_true, decide_eq_true_eq] at h
      obtain ⟨⟨rfl, h2⟩, h3⟩ := h
      obtain ⟨g1, g2, g3⟩ := o.gl h2
      exact d3 (de_call0 f (o.room h3) g1 g2) (fun _ => rfl) rfl
    · cases h
  | .blt b ps, c, e, X, W, o, f, h => by
    simp only [mE] at h
    split at h
    · rename_i x p es pos
      simp only [Bool.and_eq_true, Bool.not_eq_true'] at h
      obtain ⟨⟨⟨⟨h1, h2⟩, h3⟩, h4⟩, h5⟩ := h
      obtain ⟨g1, g2, g3⟩ := o.blt h2
      split at h1
      · rename_i y t q
        cases es with
        | nil => simp at h4
        | cons e es => exact d3 (blt_de o.un q (of_decide_eq_true h1) (o.calm h3) g1 g2 g3 (mEs_ns h5) (sEs ps c _ X W o f h5).1) (fun _ => rfl) rfl
      · cases h1
    · cases h
  | .lset a, c, e, X, W, o, f, h => by
    simp only [mE] at h
    split at h
    · simp only [Bool.and_eq_true, decide_eq_true_eq] at h
      obtain ⟨⟨⟨⟨⟨⟨rfl, rfl⟩, h1⟩, h2⟩, h3⟩, h4⟩, h5⟩ := h
      exact d3 (de_lset (o.calm h3) (o.blt h1).1 (o.blt h2).1 h4 (sE a c _ X W o f h5).1) (fun _ => rfl) rfl
    · cases h
  | .lrg1 a, c, e, X, W, o, f, h => by
    simp only [mE] at h
    split at h
    · simp only [Bool.and_eq_true, decide_eq_true_eq] at h
      obtain ⟨⟨⟨⟨⟨⟨rfl, rfl⟩, h1⟩, h2⟩, h3⟩, h4⟩, h5⟩ := h
      exact d3 (de_lrg1 (o.calm h3) (o.blt h1).1 (o.blt h2).1 h4 (sE a c _ X W o f h5).1) (fun _ => rfl) rfl
    · cases h
  | .lrg2 a b, c, e, X, W, o, f, h => by
    simp only [mE] at h
    split at h
    · simp only [Bool.and_eq_true, decide_eq_true_eq] at h
      obtain ⟨⟨⟨⟨⟨⟨⟨rfl, rfl⟩, h1⟩, h2⟩, h3⟩, h4⟩, h6⟩, h5, h7⟩ := h
      exact d3 (de_lrg2 (o.calm h3) (o.blt h1).1 (o.blt h2).1 h4 h6 (sE a c _ X W o f.1 h5).1 (sE b c _ X W o f.2 h7).1) (fun _ => rfl) rfl
    · cases h
  | .isi a t, c, e, X, W, o, f, h => by
    simp only [mE] at h
    split at h
    · simp only [Bool.and_eq_true, decide_eq_true_eq] at h
      obtain ⟨⟨⟨⟨⟨rfl, rfl⟩, h1⟩, h2⟩, h4⟩, h5⟩ := h
      exact d3 (de_isi (o.blt h1).1 (o.blt h2).1 h4 (sE a c _ X W o f h5).1) (fun _ => rfl) rfl
    · cases h
  | .idx a b, c, e, X, W, o, f, h => by
    simp only [mE] at h
    split at h
    · simp only [Bool.and_eq_true] at h
      exact d3 (de_idx h.1 (sE a c _ X W o f.1 h.2.1).1 (sE b c _ X W o f.2 h.2.2).1) (fun _ => rfl) rfl
    · cases h
  | .slc a lo hi, c, e, X, W, o, f, h => by
    simp only [mE] at h
    split at h
    · simp only [Bool.and_eq_true] at h
      exact d3 (de_slc (sE a c _ X W o f.1 h.1).1 (sO lo c _ X W o f.2.1 h.2.1) (sO hi c _ X W o f.2.2 h.2.2)) (fun _ => rfl) rfl
    · cases h
  | .tup ps, c, e, X, W, o, f, h => by
    simp only [mE] at h
    split at h
    · simp only [Bool.and_eq_true, decide_eq_true_eq] at h
      exact d3 (de_tup (sEs ps c _ X W o f h.2).1 (len_of h.1)) (fun _ => rfl) rfl
    · cases h
  | .lst ps, c, e, X, W, o, f, h => by
    simp only [mE] at h
    split at h
    · simp only [Bool.and_eq_true, decide_eq_true_eq] at h
      exact d3 (de_lst (sEs ps c _ X W o f h.2).1 (len_of h.1)) (fun _ => rfl) rfl
    · cases h
  | .newl ps, c, e, X, W, o, f, h => by
    simp only [mE] at h
    split at h
    · simp only [Bool.and_eq_true, decide_eq_true_eq] at h
      exact d3 (de_newl (sEs ps c _ X W o f h.2).1 (len_of h.1)) (fun _ => rfl) rfl
    · cases h
  | .mth m a ps, c, e, X, W, o, f, h => by
    simp only [mE] at h
    split at h
    · rename_i x nm ap es p
      simp only [Bool.and_eq_true, decide_eq_true_eq, Bool.not_eq_true'] at h
      obtain ⟨⟨⟨⟨⟨h1, h2⟩, h3⟩, h4⟩, h5⟩, h6, h7⟩ := h
      cases es with
      | nil => simp at h4
      | cons e es =>
        have qa := (sE (ex := ex) a c _ X W o f.1 h6).1
        have qs := (sEs (ex := ex) ps c _ X W o f.2 h7).1
        cases m <;> simp only at h1
        · cases (of_decide_eq_true h1)
          exact d3 (de_mthL (count_ok o.un) PySem.F.slot_list_count PySem.F.type_list_count h2 h3 (mEs_ns h7) h5 (fun _ _ => recv_count) qa qs) (fun _ => rfl) rfl
        · cases (of_decide_eq_true h1)
          exact d3 (de_mthL (index_ok o.un) PySem.F.slot_list_index PySem.F.type_list_index h2 h3 (mEs_ns h7) h5 (fun _ _ => recv_index) qa qs) (fun _ => rfl) rfl
        · cases (of_decide_eq_true h1)
          exact d3 (de_mthT h2 h3 (mEs_ns h7) h5 qa qs) (fun _ => rfl) rfl
        · cases (of_decide_eq_true h1)
          exact d3 (de_mthS join_ok PySem.F.slot_str_join PySem.F.type_str_join h2 h3 (mEs_ns h7) h5 (fun _ _ => recv_str (.inl rfl)) qa qs) (fun _ => rfl) rfl
        · cases (of_decide_eq_true h1)
          exact d3 (de_mthS split_ok PySem.F.slot_str_split PySem.F.type_str_split h2 h3 (mEs_ns h7) h5 (fun _ _ => recv_str (.inr rfl)) qa qs) (fun _ => rfl) rfl
    · cases h
  | .app i a, c, e, X, W, o, f, h => by
    simp only [mE] at h
    split at h
    · simp only [Bool.and_eq_true, decide_eq_true_eq] at h
      obtain ⟨⟨⟨⟨rfl, h1⟩, h2⟩, h3⟩, h4⟩ := h
      obtain ⟨v1, v2, v3, v4⟩ := o.vis h1
      exact d3 (de_app v1 v2 v3 v4 h2 h3 (sE a c _ X W o f h4).1) (fun _ => rfl) rfl
    · cases h
  | .ext i a, c, e, X, W, o, f, h => by
    simp only [mE] at h
    split at h
    · simp only [Bool.and_eq_true, decide_eq_true_eq] at h
      obtain ⟨⟨⟨⟨rfl, h1⟩, h2⟩, h3⟩, h4⟩ := h
      obtain ⟨v1, v2, v3, v4⟩ := o.vis h1
      exact d3 (de_ext v1 v2 v3 v4 h2 h3 (sE a c _ X W o f h4).1) (fun _ => rfl) rfl
    · cases h
  | .popA i a, c, e, X, W, o, f, h => by
    simp only [mE] at h
    split at h
    · simp only [Bool.and_eq_true, decide_eq_true_eq] at h
      obtain ⟨⟨⟨⟨rfl, h1⟩, h2⟩, h3⟩, h4⟩ := h
      obtain ⟨v1, v2, v3, v4⟩ := o.vis h1
      exact d3 (de_popA v1 v2 v3 v4 h2 h3 (sE a c _ X W o f h4).1) (fun _ => rfl) rfl
    · cases h
  | .pop i, c, e, X, W, o, f, h => by
    simp only [mE] at h
    split at h
    · simp only [Bool.and_eq_true, decide_eq_true_eq] at h
      obtain ⟨⟨rfl, h1⟩, h2⟩ := h
      obtain ⟨v1, v2, v3, v4⟩ := o.vis h1
      exact d3 (de_pop v1 v2 v3 v4 h2) (fun _ => rfl) rfl
    · cases h
  | .newd ks ps, c, e, X, W, o, f, h => by
    simp only [mE] at h
    split at h
    · simp only [Bool.and_eq_true, decide_eq_true_eq, Bool.not_eq_true'] at h
      obtain ⟨⟨h1, h2⟩, h3⟩ := h
      obtain ⟨q1, q2, q3⟩ := sK ps ks c _ _ X W o f h3
      exact d3 (de_newd (q1 _) q2 q3 (fun z => by rw [z] at h1; cases h1) h2) (fun _ => rfl) rfl
    · cases h
  | .dget a b, c, e, X, W, o, f, h => by
    simp only [mE] at h
    split at h
    · simp only [Bool.and_eq_true] at h
      exact d3 (de_dget (by have := o.un; omega) h.1 (sE a c _ X W o f.1 h.2.1).1 (sE b c _ X W o f.2 h.2.2).1) (fun _ => rfl) rfl
    · cases h
  | .lc own g it t el, c, e, X, W, o, f, h => by
    simp only [mE] at h
    split at h
    · rename_i elt tg iter ifs as scope pos
      simp only [Bool.and_eq_true, decide_eq_true_eq] at h
      obtain ⟨⟨⟨⟨⟨rfl, h1⟩, h2⟩, h3⟩, h4⟩, h5, h6, h7, h8⟩ := h
      have ob := blk_of o h2
      have hk := ob.kind
      have qi := sI (ex := ex) it c iter X W o f.1 h5.2 tg h5.1
      have qg : AllBk X scope fun Y => DG Y ex g tg := fun s H C cl fp => sG (okc_bk o h1 hk) h6
      have qt : AllBk X scope fun Y => DC Y ex W0 t ifs := fun s H C cl fp => sT t _ _ _ _ (okc_bk o h1 hk) (by rw [know_bk]; exact f.2.1) h7
      have qe : AllBk X scope fun Y => DE Y ex W0 el elt := fun s H C cl fp => (sE el _ _ _ _ (okc_bk o h1 hk) (by rw [know_bk]; exact f.2.2) h8).1
      have q := de_lc (pos := pos) (o.calm h1) o.nd ob h3 (sub_of h4) qi qg qt qe
      refine ⟨q, dt_val q fun _ => rfl, fun _ _ _ _ z i y py spos z1 z2 z3 z4 => ?_⟩
      cases z
      exact ds_setLc (o.calm h1) o.nd z1 z2 o.kind z3 z4 ob h3 (sub_of h4) qi qg qt qe
    · cases h
  | .lc2 own g it g1 it1 t el, c, e, X, W, o, f, h => by
    simp only [mE] at h
    split at h
    · rename_i elt tg iter ifs0 as tg1 iter1 ifs as1 scope pos
      simp only [Bool.and_eq_true, decide_eq_true_eq] at h
      obtain ⟨⟨⟨⟨⟨⟨⟨⟨⟨rfl, rfl⟩, h0⟩, h1⟩, h2⟩, h3⟩, h3'⟩, h4⟩, h4'⟩, h5, h6, h5', h6', h7, h8⟩ := h
      cases List.isEmpty_iff.mp h0
      have ob := blk_of o h2
      have hk := ob.kind
      have qi := sI (ex := ex) it c iter X W o f.1 h5.2 tg h5.1
      have qg : AllBk X scope fun Y => DG Y ex g tg := fun s H C cl fp => sG (okc_bk o h1 hk) h6
      have qi1 : AllBk X scope fun Y => DI Y ex W0 it1 tg1 iter1 := fun s H C cl fp => sI it1 _ _ _ _ (okc_bk o h1 hk) (by rw [know_bk]; exact f.2.1) h5'.2 tg1 h5'.1
      have qg1 : AllBk X scope fun Y => DG Y ex g1 tg1 := fun s H C cl fp => sG (okc_bk o h1 hk) h6'
      have qt : AllBk X scope fun Y => DC Y ex W0 t ifs := fun s H C cl fp => sT t _ _ _ _ (okc_bk o h1 hk) (by rw [know_bk]; exact f.2.2.1) h7
      have qe : AllBk X scope fun Y => DE Y ex W0 el elt := fun s H C cl fp => (sE el _ _ _ _ (okc_bk o h1 hk) (by rw [know_bk]; exact f.2.2.2) h8).1
      have q := de_lc2 (pos := pos) (o.calm h1) o.nd ob h3 h3' (sub_of h4) (sub_of h4') qi qg qi1 qg1 qt qe
      refine ⟨q, dt_val q fun _ => rfl, fun _ _ _ _ z i y py spos z1 z2 z3 z4 => ?_⟩
      cases z
      exact ds_setLc2 (o.calm h1) o.nd z1 z2 o.kind z3 z4 ob h3 h3' (sub_of h4) (sub_of h4') qi qg qi1 qg1 qt qe
    · cases h
  | .newlc a, c, e, X, W, o, f, h => by
    simp only [mE] at h
    split at h
    · simp only [Bool.and_eq_true, decide_eq_true_eq] at h
      obtain ⟨⟨⟨rfl, h1⟩, h2⟩, h3⟩ := h
      exact d3 (de_newlc (o.blt h1).1 h2 (sE a c _ X W o f h3).1) (fun _ => rfl) rfl
    · cases h
  | .newd0, c, e, X, W, o, f, h => by
    simp only [mE] at h
    split at h
    · exact d3 de_newd0 (fun _ => rfl) rfl
    · cases h
  | .dget2 a q d, c, e, X, W, o, f, h => by
    simp only [mE] at h
    split at h
    · simp only [Bool.and_eq_true, decide_eq_true_eq] at h
      obtain ⟨⟨⟨⟨⟨rfl, h1⟩, h2⟩, h3⟩, h4⟩, h5, h6, h7⟩ := h
      exact d3 (de_dget2 (by have := o.un; omega) h1 h2 h3 h4 (sE a c _ X W o f.1 h5).1 (sE q c _ X W o f.2.1 h6).1 (sE d c _ X W o f.2.2 h7).1) (fun _ => rfl) rfl
    · cases h
  | .rev a, c, e, X, W, o, f, h => by
    simp only [mE] at h
    split at h
    · simp only [Bool.and_eq_true, decide_eq_true_eq] at h
      obtain ⟨rfl, h⟩ := h
      exact d3 (de_rev (sE a c _ X W o f h).1) (fun _ => rfl) rfl
    · cases h
  | .callx fes w ps, c, e, X, W, o, f, h => by
    simp only [mE] at h
    split at h
    · rename_i fs lp y p es pos
      simp only [Bool.and_eq_true, decide_eq_true_eq, Bool.not_eq_true'] at h
      obtain ⟨⟨⟨⟨⟨h1, h2⟩, h3⟩, h4⟩, h5⟩, h6, h7⟩ := h
      cases es with
      | nil => simp at h4
      | cons e es =>
        exact d3 (de_callx (g := glB c) (fun x hx => ⟨(o.gl hx).1, (o.gl hx).2.1⟩) h3 h5 f.1 (o.room h2) o.tk h1 (mEs_ns h7) (sE w c _ X W o f.2.1 h6).1 (sEs ps c _ X W o f.2.2 h7).1) (fun _ => rfl) rfl
    · cases h
  | .isx i cs C, c, e, X, W, o, f, h => by
    simp only [mE] at h
    split at h
    · simp only [Bool.and_eq_true, decide_eq_true_eq, Bool.not_eq_true'] at h
      obtain ⟨⟨⟨⟨⟨rfl, rfl⟩, h1⟩, h2⟩, h3⟩, h4⟩ := h
      obtain ⟨v1, v2, v3, v4⟩ := o.vis h4
      exact d3 (de_isx (exI_of (o.exk h3)) (o.blt h1).1 v1 v2 v3 v4 (o.gl h2).1 (o.gl h2).2.1 f.1 f.2) (fun _ => rfl) rfl
    · cases h
  | .calls fs ps, c, e, X, W, o, f, h => by
    simp only [mE] at h
    split at h
    · rename_i x p es pos
      simp only [Bool.and_eq_true, decide_eq_true_eq, Bool.not_eq_true'] at h
      obtain ⟨⟨⟨⟨rfl, h2⟩, h3⟩, h4⟩, h5⟩ := h
      obtain ⟨g1, g2, g3⟩ := o.gl h2
      cases es with
      | nil => simp at h4
      | cons e es => exact d3 (de_calls (o.hex h3) f.1 (o.room h3) g1 g2 o.tk (mEs_ns h5) (sEs ps c _ X W o f.2 h5).1) (fun _ => rfl) rfl
    · cases h
  | .mcall C fs a ps, c, e, X, W, o, f, h => by
    simp only [mE] at h
    split at h
    · rename_i x nm ap es p
      simp only [Bool.and_eq_true, decide_eq_true_eq] at h
      obtain ⟨⟨⟨⟨⟨rfl, h2⟩, h3⟩, h4⟩, h5⟩, h6, h7⟩ := h
      have qa := (sE (ex := ex) a c _ X W o f.2.1 h6).1
      cases es with
      | nil =>
        cases ps with
        | nil => exact d3 (de_mcall0 (o.hex h5) f.1 (o.room h5) o.tk h2 h3 qa) (fun _ => rfl) rfl
        | cons _ _ => simp [mEs] at h7
      | cons e es => exact d3 (de_mcall (o.hex h5) f.1 (o.room h5) o.tk h2 h3 (mEs_ns h7) h4 qa (sEs ps c _ X W o f.2.2 h7).1) (fun _ => rfl) rfl
    · cases h
  | .make C fs ps, c, e, X, W, o, f, h => by
    simp only [mE] at h
    split at h
    · rename_i x p es pos
      simp only [Bool.and_eq_true, decide_eq_true_eq, Bool.not_eq_true'] at h
      obtain ⟨⟨⟨⟨rfl, h2⟩, h3⟩, h4⟩, h5⟩ := h
      obtain ⟨g1, g2, g3⟩ := o.gl h2
      obtain ⟨j, hj, G⟩ := f.1
      cases es with
      | nil => simp at h4
      | cons e es => exact d3 (de_make (o.hex h3) G hj (o.room h3) g1 g2 o.tk (mEs_ns h5) (sEs ps c _ X W o f.2 h5).1) (fun _ => rfl) rfl
    · cases h
  | .attr C a fl, c, e, X, W, o, f, h => by
    simp only [mE] at h
    split at h
    · simp only [Bool.and_eq_true, decide_eq_true_eq] at h
      obtain ⟨⟨rfl, h2⟩, h3⟩ := h
      exact d3 (de_attr f.1 h2 (sE a c _ X W o f.2 h3).1) (fun _ => rfl) rfl
    · cases h
  | .appE a b, c, e, X, W, o, f, h => by
    simp only [mE] at h
    split at h
    · simp only [Bool.and_eq_true, decide_eq_true_eq] at h
      obtain ⟨⟨⟨⟨rfl, h2⟩, h3⟩, h4⟩, h5, h6⟩ := h
      exact d3 (de_appE h2 h3 h4 (sE a c _ X W o f.1 h5).1 (sE b c _ X W o f.2 h6).1) (fun _ => rfl) rfl
    · cases h
  | .popE a, c, e, X, W, o, f, h => by
    simp only [mE] at h
    split at h
    · simp only [Bool.and_eq_true, decide_eq_true_eq] at h
      obtain ⟨⟨⟨rfl, h2⟩, h3⟩, h4⟩ := h
      exact d3 (de_popE h2 h3 (sE a c _ X W o f h4).1) (fun _ => rfl) rfl
    · cases h
  | .lenO C fs a, c, e, X, W, o, f, h => by
    simp only [mE] at h
    split at h
    · simp only [Bool.and_eq_true, decide_eq_true_eq] at h
      obtain ⟨⟨⟨⟨⟨rfl, h1⟩, h2⟩, h3⟩, h4⟩, h5⟩ := h
      obtain ⟨j, hj, G⟩ := f.1
      exact d3 (de_lenO (o.hex h3) (o.blt h2).1 h1 G hj (o.room h3) h4 (sE a c _ X W o f.2 h5).1) (fun _ => rfl) rfl
    · cases h
  | .eqO ng C fs a b, c, e, X, W, o, f, h => by
    simp only [mE] at h
    split at h
    · simp only [Bool.and_eq_true, decide_eq_true_eq, Bool.not_eq_true'] at h
      obtain ⟨⟨⟨⟨h1, h2⟩, h3⟩, h4⟩, h5, h6⟩ := h
      cases eqo_of h1
      obtain ⟨j, hj, G⟩ := f.1
      have q := de_eqO (pos := ‹Pos›) (o.hex h4) f.2.1.2 h3 G hj (o.room h4) h2 (sE a c _ X W o f.2.2.1 h5).1 (sE b c _ X W o f.2.2.2 h6).1
      exact ⟨q.1, q.2, fun _ _ _ _ z => nomatch z⟩
    · cases h
  | .callN fe ps, c, e, X, W, o, f, h => by
    simp only [mE] at h
    split at h
    · rename_i x p es pos
      simp only [Bool.and_eq_true, decide_eq_true_eq, Bool.not_eq_true'] at h
      obtain ⟨⟨⟨⟨rfl, h2⟩, h3⟩, h4⟩, h5⟩ := h
      obtain ⟨g1, g2, g3⟩ := o.gl h2
      cases es with
      | nil => simp at h4
      | cons e es => exact d3 (de_callN f.1 (o.room h3) g1 g2 o.tk (mEs_ns h5) (sEs ps c _ X W o f.2 h5).1) (fun _ => rfl) rfl
    · cases h
  | .sortA g i a, c, e, X, W, o, f, h => by
    simp only [mE] at h
    split at h
    · simp only [Bool.and_eq_true, decide_eq_true_eq] at h
      obtain ⟨⟨⟨⟨⟨⟨rfl, rfl⟩, rfl⟩, rfl⟩, rfl⟩, ⟨⟨⟨h1, h2⟩, h4⟩, h5⟩, h6⟩, h7, h8⟩ := h
      obtain ⟨v1, v2, v3, v4⟩ := o.vis h2
      obtain ⟨m1, m2, _⟩ := o.me _ h6
      have rm := o.room h5
      refine d3 (de_sortA (by rw [o.sc]; exact lam1_by h4) f.1 m1 m2 v1 v2 (o.free _ (by decide)) (o.blt h1).1 (by have := rm.dp; omega) (by have := rm.un; omega) v3 v4 h7 (sE a c _ X W o f.2 h8).1) (fun _ => rfl) rfl
    · cases h
  | .lstL ps, c, e, X, W, o, f, h => by
    simp only [mE] at h
    split at h
    · simp only [Bool.and_eq_true, decide_eq_true_eq] at h
      exact d3 (de_lstL (sEs ps c _ X W o f h.2).1 (len_of h.1)) (fun _ => rfl) rfl
    · cases h
  | .insA i a b, c, e, X, W, o, f, h => by
    simp only [mE] at h
    split at h
    · simp only [Bool.and_eq_true, decide_eq_true_eq] at h
      obtain ⟨⟨⟨⟨⟨rfl, h1⟩, h2⟩, h3⟩, h4⟩, h5, h6⟩ := h
      obtain ⟨v1, v2, v3, v4⟩ := o.vis h1
      exact d3 (de_insA v1 v2 v3 v4 h2 h3 h4 (sE a c _ X W o f.1 h5).1 (sE b c _ X W o f.2 h6).1) (fun _ => rfl) rfl
    · cases h
  | .isw a C, c, e, X, W, o, f, h => by
    simp only [mE] at h
    split at h
    · simp only [Bool.and_eq_true, decide_eq_true_eq] at h
      obtain ⟨⟨⟨⟨⟨rfl, rfl⟩, h2⟩, h3⟩, h4⟩, h5⟩ := h
      exact d3 (de_isw f.1.2 (o.blt h2).1 (o.gl h3).1 (o.gl h3).2.1 f.1.1 h4 (sE a c _ X W o f.2 h5).1) (fun _ => rfl) rfl
    · cases h
  | .callC fes i, c, e, X, W, o, f, h => by
    simp only [mE] at h
    split at h
    · simp only [Bool.and_eq_true, Bool.not_eq_true'] at h
      obtain ⟨⟨h1, h2⟩, h3⟩ := h
      obtain ⟨v1, v2, v3, v4⟩ := o.vis h1
      cases fes with
      | nil => simp at h3
      | cons fe0 fes =>
        obtain ⟨j0, hj0, _⟩ := f fe0 List.mem_cons_self
        have rm : Room (k - 1 + 1) X.A := (o.room h2).mono (by omega)
        exact d3 (de_callC (fun fe hfe => good_up (f fe hfe)) rm o.tk v1 v2 v3 v4) (fun _ => rfl) rfl
    · cases h
  | .callH fe i, c, e, X, W, o, f, h => by
    simp only [mE] at h
    split at h
    · simp only [Bool.and_eq_true, decide_eq_true_eq, Bool.not_eq_true'] at h
      obtain ⟨⟨⟨rfl, h1⟩, h2⟩, h3⟩ := h
      obtain ⟨v1, v2, v3, v4⟩ := o.vis h3
      exact d3 (de_callH f o.rh (o.exk h2) (o.gl h1).1 (o.gl h1).2.1 v1 v2 v3 v4) (fun _ => rfl) rfl
    · cases h
  | .isv i cs, c, e, X, W, o, f, h => by
    simp only [mE] at h
    split at h
    · simp only [Bool.and_eq_true, decide_eq_true_eq, Bool.not_eq_true'] at h
      obtain ⟨⟨⟨⟨⟨rfl, rfl⟩, h1⟩, h2⟩, h3⟩, h4⟩ := h
      obtain ⟨v1, v2, v3, v4⟩ := o.vis h4
      exact d3 (de_isv (o.exk h3) (o.blt h1).1 (o.blt h2).1 v1 v2 v3 v4 f) (fun _ => rfl) rfl
    · cases h
  | .allM fe g n ls ps nm, c, e, X, W, o, f, h => by
    simp only [mE] at h
    split at h
    · rename_i es _ _ _ _ _
      simp only [Bool.and_eq_true, decide_eq_true_eq, Bool.not_eq_true'] at h
      obtain ⟨⟨⟨⟨⟨⟨⟨⟨⟨rfl, rfl⟩, rfl⟩, h1⟩, h2⟩, h3⟩, h4⟩, h5⟩, h6⟩, h7⟩ := h
      obtain ⟨me, hme⟩ := Option.isSome_iff_exists.mp h5
      cases es with
      | nil => simp at h6
      | cons e es => exact d3 (de_allM f.2.1 (o.gl h2).1 (o.gl h2).2.1 o.tk (mEs_ns h7) (sEs ps c _ X W o f.2.2 h7).1 f.1 (o.room h3) (o.gl h1).1 (o.gl h1).2.1 h4 (o.me _ hme).2.2) (fun _ => rfl) rfl
    · cases h
  | .allL fe g l nm, c, e, X, W, o, f, h => by
    simp only [mE] at h
    split at h
    · simp only [Bool.and_eq_true, decide_eq_true_eq, Bool.not_eq_true'] at h
      obtain ⟨⟨⟨⟨⟨⟨rfl, rfl⟩, h1⟩, h3⟩, h4⟩, h5⟩, h6⟩ := h
      obtain ⟨m1, m2, m3⟩ := o.me _ h5
      exact d3 (de_allL ⟨f.2, m1, m2⟩ (by rw [o.N, o.sc]; exact h6) f.1 (o.room h3) (o.gl h1).1 (o.gl h1).2.1 h4 m3) (fun _ => rfl) rfl
    · cases h
theorem sEs {ex : ExK} {k : Nat} : ∀ (ps : Ps) (c : Ct) (es : List Expr) (X : Cx) (W : WX), Okc ex k c X W → fEs (Know X k) ps → mEs ps c es = true → DA X ex W ps es ∧ (es ≠ [] → ∀ an pos, DB X ex W an ps es pos ∧ DTB X ex W an ps es pos)
  | .nil, c, es, X, W, o, f, h => by
    simp only [mEs] at h
    cases List.isEmpty_iff.mp h
    exact ⟨da_nil, fun z => absurd rfl z⟩
  | .cons a .nil, c, es, X, W, o, f, h => by
    cases es with
    | nil => simp [mEs] at h
    | cons e es =>
      simp only [mEs, Bool.and_eq_true] at h
      have qa := sE (ex := ex) a c e X W o f.1 h.2.1
      cases List.isEmpty_iff.mp h.2.2
      exact ⟨da_cons h.1 qa.1 da_nil, fun _ an pos => ⟨db_one qa.1, dtb_one qa.2.1⟩⟩
  | .cons a (.cons b r), c, es, X, W, o, f, h => by
    cases es with
    | nil => simp [mEs] at h
    | cons e es =>
      rw [mEs] at h
      simp only [Bool.and_eq_true] at h
      have qa := sE (ex := ex) a c e X W o f.1 h.2.1
      have qr := sEs (ex := ex) (.cons b r) c es X W o f.2 h.2.2
      cases es with
      | nil => simp [mEs] at h
      | cons e2 es => exact ⟨da_cons h.1 qa.1 qr.1, fun _ an pos => ⟨db_cons qa.1 (qr.2 (by simp) an pos).1, dtb_cons qa.2.1 (qr.2 (by simp) an pos).2⟩⟩
theorem sK {ex : ExK} {k : Nat} : ∀ (ps : Ps) (ks : List Str) (c : Ct) (keys : List (Option Expr)) (vals : List Expr) (X : Cx) (W : WX), Okc ex k c X W → fEs (Know X k) ps → mK ps ks c keys vals = true → (∀ pos, DKs X ex W pos ks ps keys vals) ∧ keys.all (·.isSome) = true ∧ keys.length = vals.length
  | .nil, ks, c, keys, vals, X, W, o, f, h => by
    simp only [mK, Bool.and_eq_true] at h
    cases List.isEmpty_iff.mp h.1
    cases List.isEmpty_iff.mp h.2.1
    cases List.isEmpty_iff.mp h.2.2
    exact ⟨fun _ => dk_nil, rfl, rfl⟩
  | .cons a r, ks, c, keys, vals, X, W, o, f, h => by
    cases ks with
    | nil => simp [mK] at h
    | cons k0 ks =>
      cases keys with
      | nil => simp [mK] at h
      | cons ky keys =>
        cases vals with
        | nil => cases ky <;> simp [mK] at h
        | cons v vals =>
          have hs : ∃ j p, ky = some (.Constant (.str k0) j p) ∧ mE a c v = true ∧ mK r ks c keys vals = true := by
            cases ky with
            | none => simp [mK] at h
            | some e =>
              cases e <;> first | (simp [mK] at h; done) | skip
              rename_i cst j p
              cases cst <;> first | (simp [mK] at h; done) | skip
              simp only [mK, Bool.and_eq_true, decide_eq_true_eq] at h
              obtain ⟨rfl, h1, h2⟩ := h
              exact ⟨j, p, rfl, h1, h2⟩
          obtain ⟨j, p, rfl, h1, h2⟩ := hs
          obtain ⟨q1, q2, q3⟩ := sK (ex := ex) r ks c keys vals X W o f.2 h2
          exact ⟨fun pos => dk_cons (sE a c _ X W o f.1 h1).1 (q1 pos), by simp [q2], by simp [q3]⟩
theorem sO {ex : ExK} {k : Nat} : ∀ (p : O) (c : Ct) (e : Option Expr) (X : Cx) (W : WX), Okc ex k c X W → fO (Know X k) p → mO p c e = true → DO X ex W p e
  | .no, c, e, X, W, o, f, h => by
    simp only [mO] at h
    cases e with
    | none => exact do_no
    | some x => cases h
  | .yes a, c, e, X, W, o, f, h => by
    cases e with
    | none => simp [mO] at h
    | some x => exact do_yes (sE a c x X W o f (by simpa only [mO] using h)).1
theorem sT {ex : ExK} {k : Nat} : ∀ (p : O) (c : Ct) (e : List Expr) (X : Cx) (W : WX), Okc ex k c X W → fO (Know X k) p → mT p c e = true → DC X ex W p e
  | .no, c, e, X, W, o, f, h => by
    simp only [mT] at h
    cases List.isEmpty_iff.mp h
    exact dc_no
  | .yes a, c, e, X, W, o, f, h => by
    simp only [mT] at h
    split at h
    · exact dc_yes (sE a c _ X W o f h).2.1
    · cases h
theorem sI {ex : ExK} {k : Nat} : ∀ (p : It) (c : Ct) (e : Expr) (X : Cx) (W : WX), Okc ex k c X W → fI (Know X k) p → mI p c e = true → ∀ tg, tgOk p tg = true → DI X ex W p tg e
  | .ex a, c, e, X, W, o, f, h => fun tg _ => di_ex (sE a c e X W o f (by simpa only [mI] using h)).1
  | .rg1 a, c, e, X, W, o, f, h => by
    simp only [mI] at h
    split at h
    · simp only [Bool.and_eq_true, decide_eq_true_eq] at h
      obtain ⟨⟨⟨rfl, h1⟩, h2⟩, h3⟩ := h
      exact fun tg _ => di_rg1 (o.blt h1).1 h2 (sE a c _ X W o f h3).1
    · cases h
  | .rg2 a b, c, e, X, W, o, f, h => by
    simp only [mI] at h
    split at h
    · simp only [Bool.and_eq_true, decide_eq_true_eq] at h
      obtain ⟨⟨⟨⟨rfl, h1⟩, h2⟩, h2'⟩, h3, h4⟩ := h
      exact fun tg _ => di_rg2 (o.blt h1).1 h2 h2' (sE a c _ X W o f.1 h3).1 (sE b c _ X W o f.2 h4).1
    · cases h
  | .exs a, c, e, X, W, o, f, h => by
    simp only [mI] at h
    exact fun tg _ => di_exs (sE a c _ X W o f h).1
  | .enm a, c, e, X, W, o, f, h => by
    simp only [mI] at h
    split at h
    · simp only [Bool.and_eq_true, decide_eq_true_eq] at h
      obtain ⟨⟨⟨rfl, h1⟩, h2⟩, h3⟩ := h
      intro tg ht
      cases tg <;> first | (simp [tgOk] at ht; done) | skip
      exact di_enm (o.blt h1).1 h2 (sE a c _ X W o f h3).1
    · cases h
  | .zp3 ps, c, e, X, W, o, f, h => by
    simp only [mI] at h
    split at h
    · simp only [Bool.and_eq_true, decide_eq_true_eq] at h
      obtain ⟨⟨rfl, h1⟩, h3⟩ := h
      intro tg ht
      cases tg <;> first | (simp [tgOk] at ht; done) | skip
      exact di_zip3 (o.blt h1).1 (mEs_ns h3) (sEs ps c _ X W o f h3).1
    · cases h
end
mutual
theorem sS {ex : ExK} {k : Nat} : ∀ (p : Sx) (c : Ct) (st : Stmt) (X : Cx) (W : WX), Okc ex k c X W → fS (Know X k) p → mS p c st = true → DS X ex W p st
  | .asg g a, c, st, X, W, o, f, h => by
    simp only [mS] at h
    split at h
    · rename_i x p e pos
      simp only [Bool.and_eq_true] at h
      obtain ⟨⟨h1, h2⟩, h3⟩ := h
      have q := sE (ex := ex) a c e X W o f h2
      cases g with
      | tup is => simp [mG] at h1
      | name i =>
        have hst := o.stor (by simpa only [mG] using h1)
        split at h3
        · rename_i elt gs scope pos'
          simp only [Bool.and_eq_true, Bool.or_eq_true, Bool.not_eq_true'] at h3
          rcases h3.2 with h4 | h4
          · exact q.2.2 _ _ _ _ rfl i x p pos hst.1 (o.loc h4.1.1) h4.1.2 h4.2
          · exact ds_set o.nd hst (sw_cell (o.noloc h4)) q.1
        · exact ds_set o.nd hst (sw_nlc h3) q.1
    · rename_i ts kk p e pos
      simp only [Bool.and_eq_true, Bool.or_eq_true] at h
      obtain ⟨⟨h1, h2⟩, h3⟩ := h
      have q := (sE (ex := ex) a c e X W o f h2).1
      refine ds_asg (sG o h1) sw_tup1 ?_ rfl q
      rcases h3 with h3 | h3
      · exact st_none h3
      · obtain ⟨t, ht, h4⟩ := List.any_eq_true.mp h3
        split at h4
        · rename_i x px
          simp only [Bool.not_eq_true'] at h4
          cases e with
          | Tuple vs k2 p2 => exact st_cell ht (o.noloc h4)
          | _ => exact st_none rfl
        · cases h4
    · cases h
  | .par i j a b, c, st, X, W, o, f, h => by
    simp only [mS] at h
    split at h
    · simp only [Bool.and_eq_true, decide_eq_true_eq, Bool.not_eq_true', decide_eq_false_iff_not] at h
      obtain ⟨⟨⟨⟨⟨⟨⟨⟨⟨⟨⟨⟨h1, h2⟩, h3⟩, h4⟩, h5⟩, h6⟩, h7⟩, h8⟩, h9⟩, h10⟩, h11⟩, h12⟩, h13, h14⟩ := h
      exact ds_par (o.calm h10) o.nd (by rw [o.N]; exact h1) (by rw [o.N]; exact h2) h3 o.kind (o.loc h4) (o.loc h5) h6 h7 h8 h9 h11 h12 (sE a c _ X W o f.1 h13).1 (sE b c _ X W o f.2 h14).1
    · cases h
  | .par3 i j l a b d, c, st, X, W, o, f, h => by
    simp only [mS] at h
    split at h
    · simp only [Bool.and_eq_true, decide_eq_true_eq, Bool.not_eq_true', decide_eq_false_iff_not] at h
      obtain ⟨⟨⟨⟨⟨⟨⟨⟨⟨⟨h1, h2⟩, h3⟩, ⟨h4, h5⟩, h6⟩, ⟨h7, h8⟩, h9⟩, ⟨h10, h11⟩, h12⟩, h13, h14⟩, ⟨h15, h16⟩, h17⟩, h18⟩, h19, h20⟩, ⟨h21, h22⟩, h23⟩ := h
      exact ds_par3 (o.calm h18) o.nd (by rw [o.N]; exact h1) (by rw [o.N]; exact h2) (by rw [o.N]; exact h3) h4 h5 h6 o.kind (o.loc h7) (o.loc h8) (o.loc h9) h10 h11 h12 h13 h14 h15 h16 h17 h19 h20 (sE a c _ X W o f.1 h21).1 (sE b c _ X W o f.2.1 h22).1 (sE d c _ X W o f.2.2 h23).1
    · cases h
  | .expr a, c, st, X, W, o, f, h => by
    simp only [mS] at h
    split at h
    · simp only [Bool.and_eq_true] at h
      exact ds_expr h.1 (sE a c _ X W o f h.2).1
    · cases h
  | .ite t a b, c, st, X, W, o, f, h => by
    simp only [mS] at h
    split at h
    · simp only [Bool.and_eq_true] at h
      exact ds_ite (sE t c _ X W o f.1 h.1).2.1 (sSs a c _ X W o f.2.1 h.2.1) (sSs b c _ X W o f.2.2 h.2.2)
    · cases h
  | .ret a, c, st, X, W, o, f, h => by
    simp only [mS] at h
    split at h
    · exact ds_ret (sE a c _ X W o f h).1
    · cases h
  | .retN, c, st, X, W, o, f, h => by
    simp only [mS] at h
    split at h
    · exact ds_retN
    · cases h
  | .forr g it b, c, st, X, W, o, f, h => by
    simp only [mS] at h
    split at h
    · simp only [Bool.and_eq_true] at h
      obtain ⟨⟨h1, h2⟩, h3, h4, h5⟩ := h
      exact ds_for o.po (o.calm h1) h2 (sI it c _ X W o f.1 h3.2 _ h3.1) (sG o h4) (sSs b c _ X W o f.2 h5)
    · cases h
  | .whil n t b, c, st, X, W, o, f, h => by
    simp only [mS] at h
    split at h
    · simp only [Bool.and_eq_true] at h
      exact ds_while o.po (sE t c _ X W o f.1 h.1).2.1 (sSs b c _ X W o f.2 h.2)
    · cases h
  | .rais x, c, st, X, W, o, f, h => by
    simp only [mS] at h
    split at h
    · simp only [Bool.and_eq_true, decide_eq_true_eq] at h
      obtain ⟨⟨rfl, h1⟩, h2⟩ := h
      obtain ⟨g1, g2, g3⟩ := o.gl h1
      exact ds_rais (o.calm h2) o.tk f g1 g2
    · cases h
  | .pass, c, st, X, W, o, f, h => by
    simp only [mS] at h
    split at h
    · exact ds_pass
    · cases h
  | .dput a q v, c, st, X, W, o, f, h => by
    simp only [mS] at h
    split at h
    · simp only [Bool.and_eq_true] at h
      exact ds_dput (by have := o.un; omega) h.1 (sE v c _ X W o f.1 h.2.1).1 (sE a c _ X W o f.2.1 h.2.2.1).1 (sE q c _ X W o f.2.2 h.2.2.2).1
    · cases h
  | .tryx cs C i body hand, c, st, X, W, o, f, h => by
    simp only [mS] at h
    split at h
    · rename_i bd y np n hd p2 pos
      simp only [Bool.and_eq_true, decide_eq_true_eq, Bool.not_eq_true'] at h
      obtain ⟨⟨⟨⟨⟨⟨⟨rfl, h1⟩, h2⟩, h3⟩, h4⟩, h5⟩, h6⟩, h7, h8⟩ := h
      cases hd with
      | nil => simp at h6
      | cons b0 hd =>
        obtain ⟨g1, g2, g3⟩ := o.gl h1
        exact ds_try (o.stk h3).1 (o.stk h3).2 o.nd (by rw [o.N]; exact h4) (o.loc h5) ⟨g1, g2, .inl f.1.1⟩ o.tk (o.exn h2) (fun c hc => (f.1.2 c hc).1)
          (fun W' pn xe tk po => sSs body c bd _ W' (okc_tr o tk po h2) (by rw [know_tr]; exact f.2.1) h7)
          (fun a oe c1 pn hc hz hv => sSs hand c.suite (b0 :: hd) _ _ (okc_suite o (f.1.2 c1 hc).2 hz hv) (by rw [know_suite]; exact f.2.2) h8)
    · cases h
  | .setf C a fl v, c, st, X, W, o, f, h => by
    simp only [mS] at h
    split at h
    · simp only [Bool.and_eq_true, decide_eq_true_eq] at h
      obtain ⟨⟨rfl, h2⟩, h3, h4⟩ := h
      exact ds_setf f.1 h2 (sE v c _ X W o f.2.1 h3).1 (sE a c _ X W o f.2.2 h4).1
    · cases h
  | .lamI _ _ _ _ _, c, st, X, W, o, f, h => by
    simp only [mS] at h
    cases h
  | .lamR _ _ _ _ _ _, c, st, X, W, o, f, h => by
    simp only [mS] at h
    cases h
  | .setf2 C a fl b gl x y, c, st, X, W, o, f, h => by
    simp only [mS] at h
    split at h
    · simp only [Bool.and_eq_true, decide_eq_true_eq] at h
      obtain ⟨⟨⟨⟨⟨rfl, rfl⟩, h2⟩, h3⟩, h4⟩, ⟨h5, h6⟩, h7, h8⟩ := h
      exact ds_setf2 (o.calm h2) f.1 f.2.1 h3 h4 (sE x c _ X W o f.2.2.1 h5).1 (sE y c _ X W o f.2.2.2.1 h6).1 (sE a c _ X W o f.2.2.2.2.1 h7).1 (sE b c _ X W o f.2.2.2.2.2 h8).1
    · cases h
theorem sSs {ex : ExK} {k : Nat} : ∀ (p : Ss) (c : Ct) (sts : List Stmt) (X : Cx) (W : WX), Okc ex k c X W → fSs (Know X k) p → mSs p c sts = true → DSs X ex W p sts
  | .nil, c, sts, X, W, o, f, h => by
    simp only [mSs] at h
    cases List.isEmpty_iff.mp h
    exact dss_nil
  | .cons a r, c, sts, X, W, o, f, h => by
    simp only [mSs] at h
    split at h
    · rename_i fe g i ls nm
      rw [Bool.and_eq_true] at h
      obtain ⟨h, hr⟩ := h
      have f1 := f.1
      unfold ifB at h
      split at h
      · rename_i e p4 j2 p5 p6 p7 rest q
        obtain ⟨x, j, p, p1, p2, p3, rfl, k1, k2, k3, k4, k5, k6, k7, k8, k9, k10⟩ := all_of o h
        obtain ⟨m1, m2, m3⟩ := o.me _ k8
        rw [q, List.drop_one, List.tail_cons] at hr
        have es : sts = sts.take ls.length ++ (ifAll fe.name x nm j j2 p p1 p2 p3 p4 p5 p6 p7 :: rest) := (List.take_append_drop ls.length sts).symm.trans (by rw [q])
        have D := dss_lamI (ex := ex) (nm := nm) (p := p) (p1 := p1) (p2 := p2) (p3 := p3) (p4 := p4) (p5 := p5) (p6 := p6) (p7 := p7) (j := j) (j2 := j2) ⟨f1.2, m1, m2⟩ o.nd k4 k5 k6 k9 k10 f1.1 k3 k1 k2 k7 m3 (sSs r c rest X W o f.2 hr)
        rw [es]
        exact D
      · cases h
    · rename_i fe g i ls nm a
      rw [Bool.and_eq_true] at h
      obtain ⟨h0, h⟩ := h
      have f1 := f.1
      cases r with
      | cons _ _ => cases h0
      | nil =>
        split at h
        · rename_i e e2 p4 p5 q
          rw [Bool.and_eq_true] at h
          obtain ⟨x, j, p, p1, p2, p3, rfl, k1, k2, k3, k4, k5, k6, k7, k8, k9, k10⟩ := all_of o h.1
          obtain ⟨m1, m2, m3⟩ := o.me _ k8
          have D := dss_lamR (ex := ex) (nm := nm) (p := p) (p1 := p1) (p2 := p2) (p3 := p3) (p4 := p4) (p5 := p5) (j := j) ⟨f1.2.1, m1, m2⟩ o.nd k4 k5 k6 k9 k10 f1.1 k3 k1 k2 k7 m3 (sE a c e2 X W o f1.2.2 h.2).1
          rw [← q, List.take_append_drop] at D
          exact D
        · cases h
    · cases sts with
      | nil => cases h
      | cons st sts =>
        rw [Bool.and_eq_true] at h
        exact dss_cons (sS a c st X W o f.1 h.1) (sSs r c sts X W o f.2 h.2)
end
end PD
/-! Part N: a def and its text; the law and its end. -/
namespace PD
open PySem PySem.Spec PyProof.Rows L2

/-! ### what a text asks, as a list -/
mutual
def aE : P → List Ask
  | .var _ => []
  | .frz _ => []
  | .cst _ => []
  | .glb x d => [.glb x d]
  | .fnv x => [.fnv x]
  | .bin _ a b => aE a ++ aE b
  | .neg a => aE a
  | .nt a => aE a
  | .cmp _ a b => aE a ++ aE b
  | .chn _ _ a b c => aE a ++ (aE b ++ aE c)
  | .bop _ ps => aEs ps
  | .ife a b c => aE a ++ (aE b ++ aE c)
  | .call fe ps => .fn fe :: aEs ps
  | .call0 fe => [.fn fe]
  | .blt _ ps => aEs ps
  | .lset a => aE a
  | .lrg1 a => aE a
  | .lrg2 a b => aE a ++ aE b
  | .isi a _ => aE a
  | .idx a b => aE a ++ aE b
  | .slc a lo hi => aE a ++ (aO lo ++ aO hi)
  | .tup ps => aEs ps
  | .lst ps => aEs ps
  | .newl ps => aEs ps
  | .mth _ a ps => aE a ++ aEs ps
  | .app _ a => aE a
  | .ext _ a => aE a
  | .popA _ a => aE a
  | .pop _ => []
  | .newd _ ps => aEs ps
  | .dget a b => aE a ++ aE b
  | .lc _ _ it c e => aI it ++ (aO c ++ aE e)
  | .lc2 _ _ it _ it1 c e => aI it ++ (aI it1 ++ (aO c ++ aE e))
  | .rev a => aE a
  | .newlc a => aE a
  | .newd0 => []
  | .dget2 a k d => aE a ++ (aE k ++ aE d)
  | .callx fes w ps => fes.map Ask.fn ++ (aE w ++ aEs ps)
  | .isx _ cs C => [.isx cs C]
  | .calls fs ps => .fns fs :: aEs ps
  | .mcall C fs a ps => .fnm C fs :: (aE a ++ aEs ps)
  | .make C fs ps => .mk C fs :: aEs ps
  | .attr C a f => .atr C f :: aE a
  | .appE a b => aE a ++ aE b
  | .popE a => aE a
  | .lenO C fs a => .fnl C fs :: aE a
  | .eqO _ C fs a b => .fnl C fs :: .isw C :: (aE a ++ aE b)
  | .isw a C => .isw C :: aE a
  | .callN fe ps => .fnN fe :: aEs ps
  | .lstL ps => aEs ps
  | .sortA f _ a => .lam f :: aE a
  | .callC fes _ => fes.map Ask.fnC
  | .callH fe _ => [.fnH fe]
  | .isv _ cs => [.isv cs]
  | .allM fe f n ls ps _ => .fn fe :: .mkr f n ls :: aEs ps
  | .allL fe f _ _ => [.fn fe, .lam f]
  | .insA _ a b => aE a ++ aE b
def aEs : Ps → List Ask
  | .nil => []
  | .cons a r => aE a ++ aEs r
def aO : O → List Ask
  | .no => []
  | .yes a => aE a
def aI : It → List Ask
  | .ex a => aE a
  | .rg1 a => aE a
  | .rg2 a b => aE a ++ aE b
  | .enm a => aE a
  | .zp3 ps => aEs ps
  | .exs a => aE a
end
mutual
def aS : Sx → List Ask
  | .asg _ a => aE a
  | .par _ _ a b => aE a ++ aE b
  | .par3 _ _ _ a b c => aE a ++ (aE b ++ aE c)
  | .expr a => aE a
  | .ite c a b => aE c ++ (aSs a ++ aSs b)
  | .ret a => aE a
  | .retN => []
  | .forr _ it b => aI it ++ aSs b
  | .whil _ c b => aE c ++ aSs b
  | .rais c => [.exc c]
  | .pass => []
  | .dput a k v => aE v ++ (aE a ++ aE k)
  | .tryx cs C _ body hand => .tri cs C :: (aSs body ++ aSs hand)
  | .setf C a f v => .atr C f :: (aE v ++ aE a)
  | .setf2 C a f b g x y => .atr C f :: .atr C g :: (aE x ++ (aE y ++ (aE a ++ aE b)))
  | .lamI fe f _ _ _ => [.fn fe, .lam f]
  | .lamR fe f _ _ _ a => .fn fe :: .lam f :: aE a
def aSs : Ss → List Ask
  | .nil => []
  | .cons a r => aS a ++ aSs r
end
def AllP (A : Ask → Prop) : List Ask → Prop
  | [] => True
  | a :: r => A a ∧ AllP A r
theorem allP_app {A : Ask → Prop} : ∀ {l m : List Ask}, AllP A (l ++ m) → AllP A l ∧ AllP A m
  | [], m, h => ⟨trivial, h⟩
  | a :: l, m, h => ⟨⟨h.1, (allP_app h.2).1⟩, (allP_app h.2).2⟩
theorem allP_fns {A : Ask → Prop} : ∀ {l : List FE}, AllP A (l.map Ask.fn) → ∀ fe ∈ l, A (.fn fe)
  | [], _, _, h => nomatch h
  | _ :: _, h, _, hm => by
    rcases List.mem_cons.mp hm with rfl | hm
    · exact h.1
    · exact allP_fns h.2 _ hm
theorem allP_fnC {A : Ask → Prop} : ∀ {l : List FE}, AllP A (l.map Ask.fnC) → ∀ fe ∈ l, A (.fnC fe)
  | [], _, _, h => nomatch h
  | _ :: _, h, _, hm => by
    rcases List.mem_cons.mp hm with rfl | hm
    · exact h.1
    · exact allP_fnC h.2 _ hm
theorem allP_one {A : Ask → Prop} {a : Ask} (h : AllP A [a]) : A a := h.1
mutual
theorem fE_of {A : Ask → Prop} : ∀ (p : P), AllP A (aE p) → fE A p
  | .var _, _ => trivial
  | .frz _, _ => trivial
  | .cst _, _ => trivial
  | .glb _ _, h => h.1
  | .fnv _, h => h.1
  | .bin _ a b, h => ⟨fE_of a (allP_app h).1, fE_of b (allP_app h).2⟩
  | .neg a, h => fE_of a h
  | .nt a, h => fE_of a h
  | .cmp _ a b, h => ⟨fE_of a (allP_app h).1, fE_of b (allP_app h).2⟩
  | .chn _ _ a b c, h => ⟨fE_of a (allP_app h).1, fE_of b (allP_app (allP_app h).2).1, fE_of c (allP_app (allP_app h).2).2⟩
  | .bop _ ps, h => fEs_of ps h
  | .ife a b c, h => ⟨fE_of a (allP_app h).1, fE_of b (allP_app (allP_app h).2).1, fE_of c (allP_app (allP_app h).2).2⟩
  | .call _ ps, h => ⟨h.1, fEs_of ps h.2⟩
  | .call0 _, h => h.1
  | .blt _ ps, h => fEs_of ps h
  | .lset a, h => fE_of a h
  | .lrg1 a, h => fE_of a h
  | .lrg2 a b, h => ⟨fE_of a (allP_app h).1, fE_of b (allP_app h).2⟩
  | .isi a _, h => fE_of a h
  | .idx a b, h => ⟨fE_of a (allP_app h).1, fE_of b (allP_app h).2⟩
  | .slc a lo hi, h => ⟨fE_of a (allP_app h).1, fO_of lo (allP_app (allP_app h).2).1, fO_of hi (allP_app (allP_app h).2).2⟩
  | .tup ps, h => fEs_of ps h
  | .lst ps, h => fEs_of ps h
  | .newl ps, h => fEs_of ps h
  | .mth _ a ps, h => ⟨fE_of a (allP_app h).1, fEs_of ps (allP_app h).2⟩
  | .app _ a, h => fE_of a h
  | .ext _ a, h => fE_of a h
  | .popA _ a, h => fE_of a h
  | .pop _, _ => trivial
  | .newd _ ps, h => fEs_of ps h
  | .dget a b, h => ⟨fE_of a (allP_app h).1, fE_of b (allP_app h).2⟩
  | .lc _ _ it c e, h => ⟨fI_of it (allP_app h).1, fO_of c (allP_app (allP_app h).2).1, fE_of e (allP_app (allP_app h).2).2⟩
  | .lc2 _ _ it _ it1 c e, h => ⟨fI_of it (allP_app h).1, fI_of it1 (allP_app (allP_app h).2).1, fO_of c (allP_app (allP_app (allP_app h).2).2).1, fE_of e (allP_app (allP_app (allP_app h).2).2).2⟩
  | .rev a, h => fE_of a h
  | .newlc a, h => fE_of a h
  | .newd0, _ => trivial
  | .dget2 a k d, h => ⟨fE_of a (allP_app h).1, fE_of k (allP_app (allP_app h).2).1, fE_of d (allP_app (allP_app h).2).2⟩
  | .callx fes w ps, h => ⟨allP_fns (allP_app h).1, fE_of w (allP_app (allP_app h).2).1, fEs_of ps (allP_app (allP_app h).2).2⟩
  | .isx _ _ _, h => h.1
  | .calls _ ps, h => ⟨h.1, fEs_of ps h.2⟩
  | .mcall _ _ a ps, h => ⟨h.1, fE_of a (allP_app h.2).1, fEs_of ps (allP_app h.2).2⟩
  | .make _ _ ps, h => ⟨h.1, fEs_of ps h.2⟩
  | .attr _ a _, h => ⟨h.1, fE_of a h.2⟩
  | .appE a b, h => ⟨fE_of a (allP_app h).1, fE_of b (allP_app h).2⟩
  | .popE a, h => fE_of a h
  | .lenO _ _ a, h => ⟨h.1, fE_of a h.2⟩
  | .eqO _ _ _ a b, h => ⟨h.1, h.2.1, fE_of a (allP_app h.2.2).1, fE_of b (allP_app h.2.2).2⟩
  | .isw a _, h => ⟨h.1, fE_of a h.2⟩
  | .callN _ ps, h => ⟨h.1, fEs_of ps h.2⟩
  | .lstL ps, h => fEs_of ps h
  | .sortA _ _ a, h => ⟨h.1, fE_of a h.2⟩
  | .insA _ a b, h => ⟨fE_of a (allP_app h).1, fE_of b (allP_app h).2⟩
  | .callC _ _, h => allP_fnC h
  | .callH _ _, h => h.1
  | .isv _ _, h => h.1
  | .allM _ _ _ _ ps _, h => ⟨h.1, h.2.1, fEs_of ps h.2.2⟩
  | .allL _ _ _ _, h => ⟨h.1, h.2.1⟩
theorem fEs_of {A : Ask → Prop} : ∀ (p : Ps), AllP A (aEs p) → fEs A p
  | .nil, _ => trivial
  | .cons a r, h => ⟨fE_of a (allP_app h).1, fEs_of r (allP_app h).2⟩
theorem fO_of {A : Ask → Prop} : ∀ (p : O), AllP A (aO p) → fO A p
  | .no, _ => trivial
  | .yes a, h => fE_of a h
theorem fI_of {A : Ask → Prop} : ∀ (p : It), AllP A (aI p) → fI A p
  | .ex a, h => fE_of a h
  | .rg1 a, h => fE_of a h
  | .rg2 a b, h => ⟨fE_of a (allP_app h).1, fE_of b (allP_app h).2⟩
  | .enm a, h => fE_of a h
  | .zp3 ps, h => fEs_of ps h
  | .exs a, h => fE_of a h
end
mutual
theorem fS_of {A : Ask → Prop} : ∀ (p : Sx), AllP A (aS p) → fS A p
  | .asg _ a, h => fE_of a h
  | .par _ _ a b, h => ⟨fE_of a (allP_app h).1, fE_of b (allP_app h).2⟩
  | .par3 _ _ _ a b c, h => ⟨fE_of a (allP_app h).1, fE_of b (allP_app (allP_app h).2).1, fE_of c (allP_app (allP_app h).2).2⟩
  | .expr a, h => fE_of a h
  | .ite c a b, h => ⟨fE_of c (allP_app h).1, fSs_of a (allP_app (allP_app h).2).1, fSs_of b (allP_app (allP_app h).2).2⟩
  | .ret a, h => fE_of a h
  | .retN, _ => trivial
  | .forr _ it b, h => ⟨fI_of it (allP_app h).1, fSs_of b (allP_app h).2⟩
  | .whil _ c b, h => ⟨fE_of c (allP_app h).1, fSs_of b (allP_app h).2⟩
  | .rais _, h => h.1
  | .pass, _ => trivial
  | .dput a k v, h => ⟨fE_of v (allP_app h).1, fE_of a (allP_app (allP_app h).2).1, fE_of k (allP_app (allP_app h).2).2⟩
  | .tryx _ _ _ body hand, h => ⟨h.1, fSs_of body (allP_app h.2).1, fSs_of hand (allP_app h.2).2⟩
  | .setf _ a _ v, h => ⟨h.1, fE_of v (allP_app h.2).1, fE_of a (allP_app h.2).2⟩
  | .setf2 _ a _ b _ x y, h => ⟨h.1, h.2.1, fE_of x (allP_app h.2.2).1, fE_of y (allP_app (allP_app h.2.2).2).1, fE_of a (allP_app (allP_app (allP_app h.2.2).2).2).1, fE_of b (allP_app (allP_app (allP_app h.2.2).2).2).2⟩
  | .lamI _ _ _ _ _, h => ⟨h.1, h.2.1⟩
  | .lamR _ _ _ _ _ a, h => ⟨h.1, h.2.1, fE_of a h.2.2⟩
theorem fSs_of {A : Ask → Prop} : ∀ (p : Ss), AllP A (aSs p) → fSs A p
  | .nil, _ => trivial
  | .cons a r, h => ⟨fS_of a (allP_app h).1, fSs_of r (allP_app h).2⟩
end

/-! ### a def -/
section
variable {Pg : Program} {w : World} {K : PySem.W.Frag} {mg : Str → Option Value} {base : Heap}
def GoodE (Pg : Program) (w : World) (K : PySem.W.Frag) (mg : Str → Option Value) (base : Heap) (k : Nat) (fe : FE) : Prop := ∃ f fd, mg fe.name = some (.ref f) ∧ PySem.W.keepIn K (.ref f) = true ∧ Binds K fd fe.ps [] ∧ FnOk Pg w K mg base (L2.CX Pg w) k f fd fe.ps (spP K fe.ps.length fe.m)
theorem GoodE.mono {j k : Nat} {fe : FE} (g : GoodE Pg w K mg base j fe) (h : j ≤ k) : GoodE Pg w K mg base k fe := by
  obtain ⟨f, fd, h1, h2, h3, h4⟩ := g
  exact ⟨f, fd, h1, h2, h3, h4.mono h⟩
def GoodSE (Pg : Program) (w : World) (K : PySem.W.Frag) (mg : Str → Option Value) (base : Heap) (k : Nat) (fs : FS) : Prop := ∃ f fd, mg fs.name = some (.ref f) ∧ PySem.W.keepIn K (.ref f) = true ∧ Binds K fd fs.ps [] ∧ FnOk Pg w K mg base (L2.CX Pg w) k f fd fs.ps (spS K fs.ps.length fs.m)
def GoodME (Pg : Program) (w : World) (K : PySem.W.Frag) (mg : Str → Option Value) (base : Heap) (k : Nat) (C : Str) (fs : FS) : Prop := Cls K (He.ga K C) ∧ ∃ f fd, Meth K (He.ga K C) fs.name f ∧ Binds K fd fs.ps [] ∧ FnOk Pg w K mg base (L2.CX Pg w) k f fd fs.ps (spS K fs.ps.length fs.m)
def GoodIE (Pg : Program) (w : World) (K : PySem.W.Frag) (mg : Str → Option Value) (base : Heap) (k : Nat) (C : Str) (fs : FS) : Prop := mg C = some (.ref (He.ga K C)) ∧ ∃ f fd, Mk K (He.ga K C) f ∧ Binds K fd fs.ps [] ∧ FnOk Pg w K mg base (L2.CX Pg w) k f fd fs.ps (spS K fs.ps.length fs.m)
theorem GoodSE.mono {j k : Nat} {fs : FS} (g : GoodSE Pg w K mg base j fs) (h : j ≤ k) : GoodSE Pg w K mg base k fs := by
  obtain ⟨f, fd, h1, h2, h3, h4⟩ := g
  exact ⟨f, fd, h1, h2, h3, h4.mono h⟩
theorem GoodME.mono {j k : Nat} {C : Str} {fs : FS} (g : GoodME Pg w K mg base j C fs) (h : j ≤ k) : GoodME Pg w K mg base k C fs := by
  obtain ⟨h0, f, fd, h1, h3, h4⟩ := g
  exact ⟨h0, f, fd, h1, h3, h4.mono h⟩
def GoodNE (Pg : Program) (w : World) (K : PySem.W.Frag) (mg : Str → Option Value) (base : Heap) (k : Nat) (fe : FE) : Prop := ∃ f fd, mg fe.name = some (.ref f) ∧ PySem.W.keepIn K (.ref f) = true ∧ Binds K fd fe.ps [] ∧ FnOk Pg w K mg base (L2.CX Pg w) k f fd fe.ps (spN K fe.ps.length fe.m)
theorem GoodNE.mono {j k : Nat} {fe : FE} (g : GoodNE Pg w K mg base j fe) (h : j ≤ k) : GoodNE Pg w K mg base k fe := by
  obtain ⟨f, fd, h1, h2, h3, h4⟩ := g
  exact ⟨f, fd, h1, h2, h3, h4.mono h⟩
def GoodHE (Pg : Program) (w : World) (K : PySem.W.Frag) (mg : Str → Option Value) (base : Heap) (k : Nat) (fe : FE) : Prop := ∃ f fd, mg fe.name = some (.ref f) ∧ PySem.W.keepIn K (.ref f) = true ∧ Binds K fd fe.ps [] ∧ fe.ps.length = 1 ∧ HotOk Pg w K mg base k f fd fe.ps fe.m
theorem GoodHE.mono {j k : Nat} {fe : FE} (g : GoodHE Pg w K mg base j fe) (h : j ≤ k) : GoodHE Pg w K mg base k fe := by
  obtain ⟨f, fd, h1, h2, h3, h4, h5⟩ := g
  exact ⟨f, fd, h1, h2, h3, h4, fun A outer s H args p c x Q hr => h5 A outer s H args p c x Q (hr.mono h)⟩
def GoodMkE (Pg : Program) (w : World) (K : PySem.W.Frag) (mg : Str → Option Value) (base : Heap) (k : Nat) (f : Str) (n : Nat) (ls : List Lam) : Prop := ∃ a fd ps, mg f = some (.ref a) ∧ PySem.W.keepIn K (.ref a) = true ∧ Binds K fd ps [] ∧ ps.length = n ∧ FnOk Pg w K mg base (L2.CX Pg w) k a fd ps (spM K f n ls)
theorem GoodMkE.mono {j k n : Nat} {f : Str} {ls : List Lam} (g : GoodMkE Pg w K mg base j f n ls) (h : j ≤ k) : GoodMkE Pg w K mg base k f n ls := by
  obtain ⟨a, fd, ps, h1, h2, h3, h4, h5⟩ := g
  exact ⟨a, fd, ps, h1, h2, h3, h4, h5.mono h⟩
def KnowE (Pg : Program) (w : World) (K : PySem.W.Frag) (mg : Str → Option Value) (base : Heap) (k : Nat) : Ask → Prop
  | .fn fe => GoodE Pg w K mg base k fe
  | .glb x d => ∃ v u, mg x = some u ∧ RelV v u ∧ ∀ H0, DP K H0 d v
  | .fnv x => mg x = some (.ref (He.ga K x))
  | .exc c => ExcOk K mg c
  | .isx cs C => mg C = some (.ref (He.ga K C)) ∧ ∀ c ∈ cs, PySem.W.kitOne K (.ref (He.ga K c)) (.ref (He.ga K C)) = some (decide (c = C))
  | .tri cs C => mg C = some (.ref (He.ga K C)) ∧ ∀ c ∈ cs, PySem.W.exmOne K (.ref (He.ga K c)) (.ref (He.ga K C)) = some true ∧ ExcC K (He.ga K c)
  | .fns fs => GoodSE Pg w K mg base k fs
  | .fnm C fs => GoodME Pg w K mg base k C fs
  | .mk C fs => ∃ j, j + 1 ≤ k ∧ GoodIE Pg w K mg base j C fs
  | .atr C f => Cls K (He.ga K C) ∧ NoAttr K (He.ga K C) f
  | .fnl C fs => ∃ j, j + 1 ≤ k ∧ GoodME Pg w K mg base j C fs
  | .isw C => mg C = some (.ref (He.ga K C)) ∧ WCls K (He.ga K C)
  | .fnN fe => GoodNE Pg w K mg base k fe
  | .lam f => LamX.TabB base mg (He.cT K (f, none)).1 (tabA K f)
  | .fnC fe => ∃ j, j + 1 ≤ k ∧ GoodE Pg w K mg base j fe
  | .fnH fe => GoodHE Pg w K mg base k fe
  | .isv cs => ∀ c ∈ cs, PySem.W.kitOne K (.ref (He.ga K c)) (.type "ValueError") = some true
  | .mkr f n ls => GoodMkE Pg w K mg base k f n ls
def ctOfH (N : List Str) (sc : Scope) : Ct := ⟨N, sc, fun _ => true, false, true, none⟩
def ctOf (N : List Str) (sc : Scope) : Ct := ⟨N, sc, fun _ => true, true, true, none⟩
def ctOfL (f : Str) (N : List Str) (sc : Scope) : Ct := ⟨N, sc, fun _ => true, true, true, some f⟩
theorem sl_start {ex : ExK} {H0 : Hp} {al : List Addr} {us : List U} {vs : List V} {N : List Str} (hu : UPs K ex H0 al us vs) : Sl K ex H0 al (L2.start N vs) (us.map some ++ List.replicate (N.length - us.length) none) := by
  have hul : us.length = vs.length := hu.length
  refine ⟨by simp [L2.start, hul], fun i u e => ?_⟩
  have hi : i < us.length := by
    by_cases hi : i < us.length
    · exact hi
    · rw [List.getElem?_append_right (by simp; omega)] at e
      rw [List.getElem?_replicate] at e
      split at e <;> cases e
  rw [List.getElem?_append_left (by simpa using hi), List.getElem?_map] at e
  obtain ⟨u', e1, e2⟩ := Option.map_eq_some_iff.mp e
  cases e2
  obtain ⟨v, h1, h2⟩ := hu.get e1
  refine ⟨v, ?_, h2⟩
  unfold L2.start
  rw [List.getElem?_append_left (by simp; omega), List.getElem?_map, h1]
  rfl
theorem run_ok {N ps : List Str} {qual x : Str} {params : Arguments} {sc : Scope} {body : List Stmt} {f : Addr} {fd : FuncData} {b : Ss} {k : Nat} (F : FunD K x qual params body sc [] [] f fd) (S : FnScope N ps sc) (hm : mSs b (ctOf N sc) body = true) (hf : AllP (KnowE Pg w K mg base k) (aSs b)) (hfree : ∀ x ∈ bnames, mg x = none) :
    FnOk Pg w K mg base (L2.CX Pg w) (k + 1) f fd ps (spP K ps.length (runDef N.length b)) := by
  refine F.ok S (fun vs H Q E h => h.1) fun cdv A outer s H vs Q E hr h => ?_
  obtain ⟨hlen, us, H0, s0, hu, h⟩ := h
  have eK : Know (cxOf (L2.CX Pg w) Pg w K mg base N qual sc f cdv A outer s H E) k = KnowE Pg w K mg base k := by
    funext a
    cases a <;> rfl
  have ok : Okc (fun _ _ => False) k (ctOf N sc) (cxOf (L2.CX Pg w) Pg w K mg base N qual sc f cdv A outer s H E) (fun cls d _ H' => E cls d H') :=
    { N := rfl, nd := S.nd, sc := rfl, kind := S.kind, calm := fun _ => rfl, fn := fun _ _ => rfl, po := passes_of rfl, tk := takes_of rfl rfl rfl rfl, room := fun _ => hr, rh := L2H.roomH_of hr, un := (show (A.deeper (envOfC qual sc s.heap.objs.size f cdv)).units + 65 < cLine by have := hr.un; omega), free := hfree, stk := fun _ => ⟨rfl, rfl⟩, exn := fun _ _ _ z => z, exk := (fun z => nomatch z), me := fun _ z => nomatch z }
  obtain ⟨t, pt, jt⟩ := sSs (ex := fun _ _ => False) b (ctOf N sc) body _ _ ok (by rw [eK]; exact fSs_of b hf) hm
  refine ⟨t, pt, ?_⟩
  have hul : us.length = vs.length := hu.length
  have R : Rl K (fun _ _ => False) H H0 H [] [] := ⟨Same.refl _, s0, rfl, List.nodup_nil, fun n a c e => by simp at e, fun a ha => by simp at ha⟩
  have L : Sl K (fun _ _ => False) H0 [] (L2.start N vs) (us.map some ++ List.replicate (N.length - us.length) none) := by
    refine ⟨by simp [L2.start, hul], fun i u e => ?_⟩
    have hi : i < us.length := by
      by_cases hi : i < us.length
      · exact hi
      · rw [List.getElem?_append_right (by simp; omega)] at e
        rw [List.getElem?_replicate] at e
        split at e <;> cases e
    rw [List.getElem?_append_left (by simpa using hi), List.getElem?_map] at e
    obtain ⟨u', e1, e2⟩ := Option.map_eq_some_iff.mp e
    cases e2
    obtain ⟨v, h1, h2⟩ := hu.get e1
    refine ⟨v, ?_, h2⟩
    unfold L2.start
    rw [List.getElem?_append_left (by simp; omega), List.getElem?_map, h1]
    rfl
  refine jt H H0 H [] [] _ _ _ R L ?_
  unfold runDef at h
  cases q : evalSs b (us.map some ++ List.replicate (N.length - us.length) none) [] with
  | next r S =>
    rw [q] at h
    exact fun s' H' H0' al' e R' L' => h .non H' H0' R'.fr e.sub e.new R'.fz rfl
  | ret u S =>
    rw [q] at h
    cases u with
    | d x => exact fun v H' H0' al' e R' u' => h v H' H0' R'.fr e.sub e.new R'.fz u'
    | _ => exact h.elim
  | exc c r S =>
    rw [q] at h
    exact fun s' H' H0' al' e R' L' => h H' R'.fr
  | brk r S => rw [q] at h; exact h.elim
  | cont r S => rw [q] at h; exact h.elim
  | bad => rw [q] at h; exact h.elim
theorem run_okN {N ps : List Str} {qual x : Str} {params : Arguments} {sc : Scope} {body : List Stmt} {f : Addr} {fd : FuncData} {b : Ss} {k : Nat} (F : FunD K x qual params body sc [] [] f fd) (S : FnScope N ps sc) (hm : mSs b (ctOf N sc) body = true) (hf : AllP (KnowE Pg w K mg base k) (aSs b)) (hfree : ∀ x ∈ bnames, mg x = none) :
    FnOk Pg w K mg base (L2.CX Pg w) (k + 1) f fd ps (spN K ps.length (runDefN N.length b)) := by
  refine F.ok S (fun vs H Q E h => h.1) fun cdv A outer s H vs Q E hr h => ?_
  obtain ⟨hlen, us, H0, s0, hu, h⟩ := h
  have eK : Know (cxOf (L2.CX Pg w) Pg w K mg base N qual sc f cdv A outer s H E) k = KnowE Pg w K mg base k := by
    funext a
    cases a <;> rfl
  have ok : Okc (fun _ _ => False) k (ctOf N sc) (cxOf (L2.CX Pg w) Pg w K mg base N qual sc f cdv A outer s H E) (fun cls d _ H' => E cls d H') :=
    { N := rfl, nd := S.nd, sc := rfl, kind := S.kind, calm := fun _ => rfl, fn := fun _ _ => rfl, po := passes_of rfl, tk := takes_of rfl rfl rfl rfl, room := fun _ => hr, rh := L2H.roomH_of hr, un := (show (A.deeper (envOfC qual sc s.heap.objs.size f cdv)).units + 65 < cLine by have := hr.un; omega), free := hfree, stk := fun _ => ⟨rfl, rfl⟩, exn := fun _ _ _ z => z, exk := (fun z => nomatch z), me := fun _ z => nomatch z }
  obtain ⟨t, pt, jt⟩ := sSs (ex := fun _ _ => False) b (ctOf N sc) body _ _ ok (by rw [eK]; exact fSs_of b hf) hm
  refine ⟨t, pt, ?_⟩
  have hul : us.length = vs.length := hu.length
  have R : Rl K (fun _ _ => False) H H0 H [] [] := ⟨Same.refl _, s0, rfl, List.nodup_nil, fun n a c e => by simp at e, fun a ha => by simp at ha⟩
  have L : Sl K (fun _ _ => False) H0 [] (L2.start N vs) (us.map some ++ List.replicate (N.length - us.length) none) := by
    refine ⟨by simp [L2.start, hul], fun i u e => ?_⟩
    have hi : i < us.length := by
      by_cases hi : i < us.length
      · exact hi
      · rw [List.getElem?_append_right (by simp; omega)] at e
        rw [List.getElem?_replicate] at e
        split at e <;> cases e
    rw [List.getElem?_append_left (by simpa using hi), List.getElem?_map] at e
    obtain ⟨u', e1, e2⟩ := Option.map_eq_some_iff.mp e
    cases e2
    obtain ⟨v, h1, h2⟩ := hu.get e1
    refine ⟨v, ?_, h2⟩
    unfold L2.start
    rw [List.getElem?_append_left (by simp; omega), List.getElem?_map, h1]
    rfl
  refine jt H H0 H [] [] _ _ _ R L ?_
  unfold runDefN at h
  cases q : evalSs b (us.map some ++ List.replicate (N.length - us.length) none) [] with
  | next r S => rw [q] at h; exact h.elim
  | ret u S =>
    rw [q] at h
    cases u with
    | loc m =>
      intro v H' H0' al' e R' u'
      obtain ⟨p, hp, rfl⟩ := u'
      dsimp only at h
      split at h
      · rename_i xs q2
        split at q2
        · rename_i xs' q3
          cases q2
          obtain ⟨k1, k2, ws, k3, k4⟩ := R'.at_ _ p _ hp q3
          exact h p ws H' H0' R'.fr e.sub e.new R'.fz k1 k2 k3 k4
        · cases q2
      · rename_i c q2
        split at q2 <;> cases q2
      · exact h.elim
    | _ => exact h.elim
  | exc c r S =>
    rw [q] at h
    exact fun s' H' H0' al' e R' L' => h H' R'.fr
  | brk r S => rw [q] at h; exact h.elim
  | cont r S => rw [q] at h; exact h.elim
  | bad => rw [q] at h; exact h.elim
theorem run_okS {N ps : List Str} {qual x : Str} {params : Arguments} {sc : Scope} {body : List Stmt} {f : Addr} {fd : FuncData} {b : Ss} {k : Nat} (F : FunD K x qual params body sc [] [] f fd) (S : FnScope N ps sc) (hm : mSs b (ctOf N sc) body = true) (hf : AllP (KnowE Pg w K mg base k) (aSs b)) (hfree : ∀ x ∈ bnames, mg x = none) :
    FnOk Pg w K mg base (L2.CX Pg w) (k + 1) f fd ps (spS K ps.length (runDefS N.length b)) := by
  refine F.ok S (fun vs H Q E h => h.1) fun cdv A outer s H vs Q E hr h => ?_
  obtain ⟨hlen, us, HF, H0, al, S0, R, hu, h⟩ := h
  have eK : Know (cxOf (L2.CX Pg w) Pg w K mg base N qual sc f cdv A outer s H E) k = KnowE Pg w K mg base k := by
    funext a
    cases a <;> rfl
  have ok : Okc E0x k (ctOf N sc) (cxOf (L2.CX Pg w) Pg w K mg base N qual sc f cdv A outer s H E) (fun cls d _ H' => E cls d H') :=
    { N := rfl, nd := S.nd, sc := rfl, kind := S.kind, calm := fun _ => rfl, fn := fun _ _ => rfl, po := passes_of rfl, tk := takes_of rfl rfl rfl rfl, room := fun _ => hr, rh := L2H.roomH_of hr, un := (show (A.deeper (envOfC qual sc s.heap.objs.size f cdv)).units + 65 < cLine by have := hr.un; omega), free := hfree, stk := fun _ => ⟨rfl, rfl⟩, exn := fun _ _ _ z => z, exk := (fun z => nomatch z), me := fun _ z => nomatch z }
  obtain ⟨t, pt, jt⟩ := sSs (ex := E0x) b (ctOf N sc) body _ _ ok (by rw [eK]; exact fSs_of b hf) hm
  refine ⟨t, pt, ?_⟩
  have hul : us.length = vs.length := hu.length
  have L : Sl K E0x H0 al (L2.start N vs) (us.map some ++ List.replicate (N.length - us.length) none) := by
    refine ⟨by simp [L2.start, hul], fun i u e => ?_⟩
    have hi : i < us.length := by
      by_cases hi : i < us.length
      · exact hi
      · rw [List.getElem?_append_right (by simp; omega)] at e
        rw [List.getElem?_replicate] at e
        split at e <;> cases e
    rw [List.getElem?_append_left (by simpa using hi), List.getElem?_map] at e
    obtain ⟨u', e1, e2⟩ := Option.map_eq_some_iff.mp e
    cases e2
    obtain ⟨v, h1, h2⟩ := hu.get e1
    refine ⟨v, ?_, h2⟩
    unfold L2.start
    rw [List.getElem?_append_left (by simp; omega), List.getElem?_map, h1]
    rfl
  refine jt HF H0 H al S0 _ _ _ R L ?_
  unfold runDefS at h
  cases q : evalSs b (us.map some ++ List.replicate (N.length - us.length) none) S0 with
  | next r S =>
    rw [q] at h
    exact fun s' H' H0' al' e R' L' => h .non H' H0' al' e R' rfl
  | ret u S =>
    rw [q] at h
    exact fun v H' H0' al' e R' u' => h v H' H0' al' e R' u'
  | exc c r S =>
    rw [q] at h
    exact fun s' H' H0' al' e R' L' => h H' H0' al' e R'
  | brk r S => rw [q] at h; exact h.elim
  | cont r S => rw [q] at h; exact h.elim
  | bad => rw [q] at h; exact h.elim
/-- a def whose code object is known -/
theorem fun_okC {CX : CXT} {N ps : List Str} {qual x : Str} {params : Arguments} {sc : Scope} {body : List Stmt} {p : He.Defn} {fd : FuncData} {k : Nat} {sp : Sp} (F : FunD K x qual params body sc [] [] (He.fAd K p) fd) (S : FnScope N ps sc) (len : ∀ vs H Q E, sp vs H Q E → vs.length = ps.length)
    (hbody : ∀ (A : Around) (outer : List Env) (s : Shared) (H : Hp) (vs : List V) (Q : VK) (E : XK), Room k (A.deeper (envOfC qual sc s.heap.objs.size (He.fAd K p) (.ref (He.cT K p).1))) → sp vs H Q E →
      ∃ t, PSs (cxOf CX Pg w K mg base N qual sc (He.fAd K p) (.ref (He.cT K p).1) A outer s H E) body t ∧ t { nx := fun _ H' => Q .non H', rt := Q } (L2.start N vs) H) : FnOk Pg w K mg base CX (k + 1) (He.fAd K p) fd ps sp := by
  obtain ⟨oc, od, dV, kV, doc, pm, an, cdv, ct, osl, rfl, lk, hcd, _, _⟩ := F.ex
  have e : cdv = .ref (He.cT K p).1 := by
    cases cdv with
    | ref c => exact congrArg Value.ref (He.codeOf_eq lk rfl).symm
    | _ => cases hcd
  subst e
  exact fn_of lk hcd S len fun A outer s H vs Q E hr hsp => hbody A outer s H vs Q E hr hsp
theorem run_okSL {N ps : List Str} {x : Str} {params : Arguments} {sc : Scope} {body : List Stmt} {f : Str} {fd : FuncData} {b : Ss} {k : Nat} (F : FunD K x f params body sc [] [] (He.fAd K (f, none)) fd) (S : FnScope N ps sc) (hm : mSs b (ctOfL f N sc) body = true) (hf : AllP (KnowE Pg w K mg base k) (aSs b)) (hfree : ∀ x ∈ bnames, mg x = none) :
    FnOk Pg w K mg base (L2.CX Pg w) (k + 1) (He.fAd K (f, none)) fd ps (spS K ps.length (runDefS N.length b)) := by
  refine fun_okC F S (fun vs H Q E h => h.1) fun A outer s H vs Q E hr h => ?_
  obtain ⟨hlen, us, HF, H0, al, S0, R, hu, h⟩ := h
  have eK : Know (cxOf (L2.CX Pg w) Pg w K mg base N f sc (He.fAd K (f, none)) (.ref (He.cT K (f, none)).1) A outer s H E) k = KnowE Pg w K mg base k := by
    funext a
    cases a <;> rfl
  have ok : Okc E0x k (ctOfL f N sc) (cxOf (L2.CX Pg w) Pg w K mg base N f sc (He.fAd K (f, none)) (.ref (He.cT K (f, none)).1) A outer s H E) (fun cls d _ H' => E cls d H') :=
    { N := rfl, nd := S.nd, sc := rfl, kind := S.kind, calm := fun _ => rfl, fn := fun _ _ => rfl, po := passes_of rfl, tk := takes_of rfl rfl rfl rfl, room := fun _ => hr, rh := L2H.roomH_of hr, un := (show (A.deeper (envOfC f sc s.heap.objs.size (He.fAd K (f, none)) (.ref (He.cT K (f, none)).1))).units + 65 < cLine by have := hr.un; omega), free := hfree, stk := fun _ => ⟨rfl, rfl⟩, exn := fun _ _ _ z => z, exk := (fun z => nomatch z), me := fun g z => by cases z; exact ⟨rfl, rfl, fun _ => rfl⟩ }
  obtain ⟨t, pt, jt⟩ := sSs (ex := E0x) b (ctOfL f N sc) body _ _ ok (by rw [eK]; exact fSs_of b hf) hm
  refine ⟨t, pt, ?_⟩
  have hul : us.length = vs.length := hu.length
  have L : Sl K E0x H0 al (L2.start N vs) (us.map some ++ List.replicate (N.length - us.length) none) := by
    refine ⟨by simp [L2.start, hul], fun i u e => ?_⟩
    have hi : i < us.length := by
      by_cases hi : i < us.length
      · exact hi
      · rw [List.getElem?_append_right (by simp; omega)] at e
        rw [List.getElem?_replicate] at e
        split at e <;> cases e
    rw [List.getElem?_append_left (by simpa using hi), List.getElem?_map] at e
    obtain ⟨u', e1, e2⟩ := Option.map_eq_some_iff.mp e
    cases e2
    obtain ⟨v, h1, h2⟩ := hu.get e1
    refine ⟨v, ?_, h2⟩
    unfold L2.start
    rw [List.getElem?_append_left (by simp; omega), List.getElem?_map, h1]
    rfl
  refine jt HF H0 H al S0 _ _ _ R L ?_
  unfold runDefS at h
  cases q : evalSs b (us.map some ++ List.replicate (N.length - us.length) none) S0 with
  | next r S =>
    rw [q] at h
    exact fun s' H' H0' al' e R' L' => h .non H' H0' al' e R' rfl
  | ret u S =>
    rw [q] at h
    exact fun v H' H0' al' e R' u' => h v H' H0' al' e R' u'
  | exc c r S =>
    rw [q] at h
    exact fun s' H' H0' al' e R' L' => h H' H0' al' e R'
  | brk r S => rw [q] at h; exact h.elim
  | cont r S => rw [q] at h; exact h.elim
  | bad => rw [q] at h; exact h.elim
/-- what the law promises, over the tables of gs -/
def spT (K : PySem.W.Frag) (gs : List Str) (n : Nat) (m : List U → R) : Sp := fun vs H Q E => vs.length = n ∧ ∃ us H0, Same H0 H ∧ NT H0 ∧ (gs.map (tabA K)).Nodup ∧ (∀ g ∈ gs, H0 (tabA K g) = none ∧ LamX.TabS H (tabA K g) (lamQ g)) ∧ UPs K E0x H0 [] us vs ∧ m us = .ok (.bool true) ∧ ∀ H', Q (.bl true) H'
theorem rl_tabs {gs : List Str} {H0 H : Hp} (s0 : Same H0 H) (n0 : NT H0) (nd : (gs.map (tabA K)).Nodup) (hT : ∀ g ∈ gs, H0 (tabA K g) = none ∧ LamX.TabS H (tabA K g) (lamQ g)) : Rl K E0x (noT H) H0 H (gs.map (tabA K)) (gs.map .tab) := by
  refine ⟨fun b x e => noT_sub e, s0, by simp, nd, fun n a c h1 h2 => ?_, fun a ha => ?_⟩
  · rw [List.getElem?_map] at h1 h2
    obtain ⟨g, e1, rfl⟩ := Option.map_eq_some_iff.mp h1
    rw [e1] at h2
    cases h2
    obtain ⟨z, ps, e2, e3⟩ := hT g (List.mem_of_getElem? e1)
    refine ⟨?_, z, ⟨ps, e2, e3⟩, ⟨nt_noT H, rfl⟩, n0⟩
    unfold noT
    rw [e2]
  · obtain ⟨g, hg, rfl⟩ := List.mem_map.mp ha
    obtain ⟨z, ps, e2, e3⟩ := hT g hg
    rw [e2]
    simp
theorem run_okT {gs : List Str} {N ps : List Str} {x f : Str} {params : Arguments} {sc : Scope} {body : List Stmt} {fd : FuncData} {b : Ss} {k : Nat} (F : FunD K x f params body sc [] [] (He.fAd K (f, none)) fd) (S : FnScope N ps sc) (hm : mSs b (ctOfL f N sc) body = true) (hf : AllP (KnowE Pg w K mg base k) (aSs b)) (hfree : ∀ x ∈ bnames, mg x = none) :
    FnOk Pg w K mg base (L2.CX Pg w) (k + 1) (He.fAd K (f, none)) fd ps (spT K gs ps.length (runDefT (gs.map .tab) N.length b)) := by
  refine fun_okC F S (fun vs H Q E h => h.1) fun A outer s H vs Q E hr h => ?_
  obtain ⟨hlen, us, H0, s0, n0, nd, hT, hu, hm1, hQ⟩ := h
  have R := rl_tabs s0 n0 nd hT
  have hu := UPs.mono (Same.refl H0) (List.nil_prefix (l := gs.map (tabA K))) _ _ hu
  have eK : Know (cxOf (L2.CX Pg w) Pg w K mg base N f sc (He.fAd K (f, none)) (.ref (He.cT K (f, none)).1) A outer s H E) k = KnowE Pg w K mg base k := by
    funext a
    cases a <;> rfl
  have ok : Okc E0x k (ctOfL f N sc) (cxOf (L2.CX Pg w) Pg w K mg base N f sc (He.fAd K (f, none)) (.ref (He.cT K (f, none)).1) A outer s H E) (fun cls d _ H' => E cls d H') :=
    { N := rfl, nd := S.nd, sc := rfl, kind := S.kind, calm := fun _ => rfl, fn := fun _ _ => rfl, po := passes_of rfl, tk := takes_of rfl rfl rfl rfl, room := fun _ => hr, rh := L2H.roomH_of hr, un := (show (A.deeper (envOfC f sc s.heap.objs.size (He.fAd K (f, none)) (.ref (He.cT K (f, none)).1))).units + 65 < cLine by have := hr.un; omega), free := hfree, stk := fun _ => ⟨rfl, rfl⟩, exn := fun _ _ _ z => z, exk := (fun z => nomatch z), me := fun g z => by cases z; exact ⟨rfl, rfl, fun _ => rfl⟩ }
  obtain ⟨t, pt, jt⟩ := sSs (ex := E0x) b (ctOfL f N sc) body _ _ ok (by rw [eK]; exact fSs_of b hf) hm
  refine ⟨t, pt, ?_⟩
  refine jt (noT H) H0 H (gs.map (tabA K)) (gs.map .tab) _ _ _ R (sl_start hu) ?_
  unfold runDefT at hm1
  cases q : evalSs b (us.map some ++ List.replicate (N.length - us.length) none) (gs.map .tab) with
  | next r S => rw [q] at hm1; cases hm1
  | ret u S =>
    rw [q] at hm1
    cases u with
    | d x =>
      cases hm1
      intro v H' H0' al' e R' u'
      cases (show v = V.bl true from u')
      exact hQ H'
    | _ => cases hm1
  | exc c r S => rw [q] at hm1; cases hm1
  | brk r S => rw [q] at hm1; cases hm1
  | cont r S => rw [q] at hm1; cases hm1
  | bad => rw [q] at hm1; cases hm1
/-- a def that is handed the caught error -/
theorem run_okH {N ps : List Str} {qual x : Str} {params : Arguments} {sc : Scope} {body : List Stmt} {f : Addr} {fd : FuncData} {b : Ss} {k : Nat} (F : FunD K x qual params body sc [] [] f fd) (S : FnScope N ps sc) (hps : ps.length = 1) (hm : mSs b (ctOfH N sc) body = true) (hf : AllP (KnowE Pg w K mg base k) (aSs b)) (hfree : ∀ x ∈ bnames, mg x = none) :
    HotOk Pg w K mg base (k + 1) f fd ps (runDef N.length b) := by
  intro A outer s H args p c z Q hr hpin hz hv hE e0 hb hm1 hQ
  obtain ⟨oc, od, dV, kV, doc, pm, an, cdv, ct, osl, rfl, lk, hcd, _, _⟩ := F.ex
  have kIn : K.In s.heap := e0.mod.kin.keeps fun c y z => (e0.bs c y z).1
  have noL : s.heap.NoLimit := e0.mod.nolimit.keeps fun c y z => (e0.bs c y z).1
  have kinds : ∀ y ∈ ps.zip [Value.ref p.1], sc.names.lookup y.1 = some .local ∨ (sc.names.lookup y.1 = some .cell ∧ ((cellsFrom (s.heap.objs.size + 1) sc.names []).lookup y.1).isSome = true) := fun y hy =>
    (S.par y.1 (List.of_mem_zip (a := y.1) (b := y.2) hy).1).elim .inl fun q => .inr ⟨q, PySem.W.cellsFrom_some _ _ _ (.inl q)⟩
  refine codeAny_call_function hr.depth (kIn _ _ lk) rfl S.co S.gen rfl (PySem.W.codeRec_of kIn hcd) (hb _ _ _ _ ?_)
  refine wpAny_newFunctionEnv_cells S.kind kinds fun env he s1 ic => ?_
  subst he
  refine ⟨noL.keeps ic.toInCall.keep, codeAny_func ?_⟩
  have I := L2H.inv_startH (CX := L2.CX Pg w) (P := Pg) (w := w) (E := fun _ _ _ => False) (f := f) (cd := cdv) (qual := qual) (vs := [.ref p.1]) S hpin e0 hps.symm (.cons rfl .nil) ic
  have eK : Know (L2H.cxH (L2.CX Pg w) Pg w K mg base N qual sc f cdv A outer s H (fun _ _ _ => False) p) k = KnowE Pg w K mg base k := by
    funext a
    cases a <;> rfl
  have rh := hr.deeper (envOfC qual sc s.heap.objs.size f cdv)
  have ok : Okc (fun a' c' => a' = p.1 ∧ c' = c) k (ctOfH N sc) (L2H.cxH (L2.CX Pg w) Pg w K mg base N qual sc f cdv A outer s H (fun _ _ _ => False) p) (fun _ _ _ _ => False) :=
    { N := rfl, nd := S.nd, sc := rfl, kind := S.kind, calm := (fun z => nomatch z), fn := fun _ _ => rfl, po := passes_of rfl, tk := takes0, room := (fun z => nomatch z), rh := rh, un := (show (A.deeper (envOfC qual sc s.heap.objs.size f cdv)).units + 65 < cLine by have := rh.un; omega), free := hfree, stk := fun _ => ⟨rfl, rfl⟩, exn := (fun z => nomatch z), exk := (fun _ a' c' q => by obtain ⟨rfl, rfl⟩ := q; exact ⟨p.2, List.mem_singleton.mpr rfl, hz, hv, hE⟩), me := (fun _ z => nomatch z) }
  obtain ⟨t, pt, jt⟩ := sSs (ex := fun a' c' => a' = p.1 ∧ c' = c) b (ctOfH N sc) body _ _ ok (by rw [eK]; exact fSs_of b hf) hm
  have hu : UPs K (fun a' c' => a' = p.1 ∧ c' = c) H [] [.exn c] [.ref p.1] := ⟨_, _, rfl, ⟨p.1, rfl, rfl, rfl⟩, rfl⟩
  have R : Rl K (fun a' c' => a' = p.1 ∧ c' = c) H H H [] [] := ⟨Same.refl _, Same.refl _, rfl, List.nodup_nil, fun n a c e => by simp at e, fun a ha => by simp at ha⟩
  have post : t { nx := fun _ H' => Q .non H', rt := Q } (L2.start N [.ref p.1]) H := by
    refine jt H H H [] [] _ _ _ R (sl_start hu) ?_
    unfold runDef at hm1
    cases q : evalSs b (([U.exn c] : List U).map some ++ List.replicate (N.length - ([U.exn c] : List U).length) none) [] with
    | next r S => rw [q] at hm1; cases hm1
    | ret u S =>
      rw [q] at hm1
      cases u with
      | d x =>
        cases hm1
        intro v H' H0' al' e R' u'
        cases (show v = V.str z from u')
        exact hQ H' R'.fr
      | _ => cases hm1
    | exc c r S => rw [q] at hm1; cases hm1
    | brk r S => rw [q] at hm1; cases hm1
    | cont r S => rw [q] at hm1; cases hm1
    | bad => rw [q] at hm1; cases hm1
  refine wpAny_mono (pt.run [] s1 _ H _ I post) (fun fl s' hs => ?_) fun e s' hs => hs
  cases fl with
  | ret u =>
    obtain ⟨v, σ', H', J, rv, q⟩ := hs
    exact ⟨v, H', J.os, J.bare, J.base, J.hok, rv, q⟩
  | next =>
    obtain ⟨σ', H', J, q⟩ := hs
    exact ⟨.non, H', J.os, J.bare, J.base, J.hok, rfl, q⟩
  | brk =>
    obtain ⟨_, _, _, q⟩ := hs
    exact q.elim
  | cont =>
    obtain ⟨_, _, _, q⟩ := hs
    exact q.elim
/-- a def that makes a list of lambdas -/
def mkB (N : List Str) (sc : Scope) (n i : Nat) (x : Str) (ls : List Lam) (body : List Stmt) : Bool :=
  decide (N[i]? = some x) && okN x && decide (sc.names.lookup x = some .local) && decide (ls.length ≤ 1000) && decide (n ≤ i) && mBlk N sc x ls (body.take ls.length) && (match body.drop ls.length with
  | [.Return (some (.Name y _)) _] => decide (y = x)
  | _ => false)
theorem dp_ext {H H1 : Hp} (e : LamX.ExtN H H1) {d : PyData} {v : V} (h : DP K H d v) : DP K H1 d v := DP.mono (fun b x q => e b x (noT_sub q) (fun ps z => nt_noT H b ps (by rw [q, z]))) _ _ (DP.noT _ _ h)
theorem run_okM {N ps : List Str} {f : Str} {params : Arguments} {sc : Scope} {body : List Stmt} {fd : FuncData} {ls : List Lam} {i k : Nat} {x : Str} (F : FunD K f f params body sc [] [] (He.fAd K (f, none)) fd) (S : FnScope N ps sc) (TB : LamX.TabB base mg (He.cT K (f, none)).1 (tabA K f)) (hB : mkB N sc ps.length i x ls body = true) :
    FnOk Pg w K mg base (L2.CX Pg w) (k + 1) (He.fAd K (f, none)) fd ps (spM K f ps.length ls) := by
  obtain ⟨oc, od, dV, kV, doc, pm, an, cdv, ct, osl, rfl, lk, hcd, _, _⟩ := F.ex
  have ec : cdv = .ref (He.cT K (f, none)).1 := by
    cases cdv with
    | ref c => exact congrArg Value.ref (He.codeOf_eq lk rfl).symm
    | _ => cases hcd
  subst ec
  unfold mkB at hB
  simp only [Bool.and_eq_true, decide_eq_true_eq] at hB
  obtain ⟨⟨⟨⟨⟨⟨b1, b2⟩, b3⟩, b4⟩, b5⟩, b6⟩, b7⟩ := hB
  obtain ⟨d1, d2, _⟩ := okN_of b2
  split at b7
  · rename_i y p1 p2 q
    cases of_decide_eq_true b7
    have eb := (List.take_append_drop ls.length body).symm
    rw [q] at eb
    refine ⟨fun vs H Q E h => h.1, fun A outer s H args us vs Q E hr e0 hb r h => ?_⟩
    obtain ⟨hl, ds, T, cs, dd, tk, hT, hc, hQ⟩ := h
    have kIn : K.In s.heap := e0.mod.kin.keeps fun c y z => (e0.bs c y z).1
    have noL : s.heap.NoLimit := e0.mod.nolimit.keeps fun c y z => (e0.bs c y z).1
    have kinds : ∀ y ∈ ps.zip us, sc.names.lookup y.1 = some .local ∨ (sc.names.lookup y.1 = some .cell ∧ ((cellsFrom (s.heap.objs.size + 1) sc.names []).lookup y.1).isSome = true) := fun y hy =>
      (S.par y.1 (List.of_mem_zip (a := y.1) (b := y.2) hy).1).elim .inl fun q => .inr ⟨q, PySem.W.cellsFrom_some _ _ _ (.inl q)⟩
    refine codeAny_call_function hr.depth (kIn _ _ lk) rfl S.co S.gen rfl (PySem.W.codeRec_of kIn hcd) (hb _ _ _ _ ?_)
    refine wpAny_newFunctionEnv_cells S.kind kinds fun env he s1 ic => ?_
    subst he
    refine ⟨noL.keeps ic.toInCall.keep, codeAny_func ?_⟩
    have I : Inv (cxOf (L2.CX Pg w) Pg w K mg base N f sc (He.fAd K (f, none)) (.ref (He.cT K (f, none)).1) A outer s H E) [] (L2.start N vs) H s1 := inv_start S hr.hd e0 hl r ic
    have M : Mkr (cxOf (L2.CX Pg w) Pg w K mg base N f sc (He.fAd K (f, none)) (.ref (He.cT K (f, none)).1) A outer s H E) f := ⟨TB, rfl, rfl⟩
    have sg := seg_blk (X := cxOf (L2.CX Pg w) Pg w K mg base N f sc (He.fAd K (f, none)) (.ref (He.cT K (f, none)).1) A outer s H E) (i := i) M S.nd ⟨b1, .inl b3, .inr b3⟩ d1 d2 b6
    show wpAny _ _ (execs body _) _ _ _
    rw [eb]
    refine sg [.Return (some (.Name x p1)) p2] [] s1 (L2.start N vs) H (fun σ' H' => ∃ L ws, σ' = (L2.start N vs).set i (some (.ref L)) ∧ LamX.ExtN H H' ∧ LamX.Tabs T H' ∧ H' L = some (.lst ws) ∧ LamsAt N sc (lamQ f) (envOfC f sc s.heap.objs.size (He.fAd K (f, none)) (.ref (He.cT K (f, none)).1)).cells H' ls ws ∧ i < (L2.start N vs).length) _ I ⟨T, tk, hT, Nat.le_trans b4 (by decide), fun L H1 ws eN T1 hL la hi => ⟨L, ws, rfl, eN, T1, hL, la, hi⟩⟩ fun s' σ' H' I' q' => ?_
    obtain ⟨L, ws, rfl, eN, T1, hL, la, hi⟩ := q'
    refine wpAny_execs_cons (wpAny_Return_some (thn ((pe_var (pos := p1) b1 (.inl b3) d1 d2).run [] s' _ H' (fun v H1 => v = .ref L ∧ H1 = H') I' ⟨.ref L, by rw [List.getElem?_set_self hi], rfl, rfl⟩) fun u s2 ⟨v, H1, I2, r2, q2⟩ => ?_))
    obtain ⟨rfl, rfl⟩ := q2
    have hA := pinOk I2
    have ab := cells_above I2 (fun _ => rfl)
    have su := same_pin (h := s2.heap) fun b hb => (hA b hb).1
    have un := un_end (fun b hb => ⟨(hA b hb).1, (hA b hb).2, by
      show s.heap.get? b = none
      cases e : s.heap.get? b with
      | none => rfl
      | some o => exact absurd (Heap.lt_size e) (Nat.not_lt.mpr (ab b hb))⟩) I2.base
    refine ⟨.ref L, _, I2.os, I2.bare, un, hok_pin I2.hok hA, r2, hQ L _ (eN.trans (LamX.ExtN.of su)) (T1.ext su) ⟨L, ws, rfl, su _ _ hL, ups_clos I2 (fun j d e => ?_) la hc⟩⟩
    obtain ⟨v, e1, e2⟩ := dd.get e
    have hj : j < vs.length := (List.getElem?_eq_some_iff.mp e1).1
    refine ⟨v, ?_, dp_ext eN e2⟩
    rw [List.getElem?_set_ne (by omega)]
    unfold L2.start
    rw [List.getElem?_append_left (by simpa using hj), List.getElem?_map, e1]
    rfl
  · cases b7
/-- the facts that the head tells -/
structure Tx (fa : List He.Fa) (fn : List He.DefD) (K : PySem.W.Frag) (mg : Str → Option Value) : Prop where
  c : He.SaysD fa fn K
  x : ∃ h : Heap, K.In h ∧ h.Ns mainGlobals mg
  free : ∀ x ∈ bnames, mg x = none
theorem Tx.glo {fa : List He.Fa} {fn : List He.DefD} (T : Tx fa fn K mg) {x : Str} (h : He.Fa.glo x ∈ fa) : mg x = some (.ref (He.ga K x)) :=
  let ⟨_, X, G⟩ := T.x
  He.glo_ok X G (T.c.facts h)
theorem Tx.good {fa : List He.Fa} {fn : List He.DefD} (T : Tx fa fn K mg) {d : He.DefD} (hd : d ∈ fn) (hg : He.Fa.glo d.name ∈ fa) {x : Str} {pr : Arguments} {bd : List Stmt} {sc : Scope} (ed : d = ⟨(x, none), x, x, pr, bd, sc, [], []⟩) {N ps : List Str} {b : Ss} {k : Nat} (S : FnScope N ps sc)
    (hb : ∀ (kV doc pm : Value) (an : Option Addr) (cdv ct : Value) (us : List Value), us.length = ps.length → bindArgs (PySem.W.fnOf x x pr bd sc .none kV doc pm an cdv ct) ⟨us, []⟩ = pure (ps.zip us)) (hm : mSs b (ctOf N sc) bd = true)
    (hf : AllP (KnowE Pg w K mg base k) (aSs b)) : GoodE Pg w K mg base (k + 1) ⟨x, ps, runDef N.length b⟩ := by
  subst ed
  obtain ⟨fd, F⟩ := T.c.defs hd
  exact ⟨_, fd, T.glo hg, F.kp, FunD.bindsN F hb, run_ok F S hm hf T.free⟩
theorem Tx.goodN {fa : List He.Fa} {fn : List He.DefD} (T : Tx fa fn K mg) {d : He.DefD} (hd : d ∈ fn) (hg : He.Fa.glo d.name ∈ fa) {x : Str} {pr : Arguments} {bd : List Stmt} {sc : Scope} (ed : d = ⟨(x, none), x, x, pr, bd, sc, [], []⟩) {N ps : List Str} {b : Ss} {k : Nat} (S : FnScope N ps sc)
    (hb : ∀ (kV doc pm : Value) (an : Option Addr) (cdv ct : Value) (us : List Value), us.length = ps.length → bindArgs (PySem.W.fnOf x x pr bd sc .none kV doc pm an cdv ct) ⟨us, []⟩ = pure (ps.zip us)) (hm : mSs b (ctOf N sc) bd = true)
    (hf : AllP (KnowE Pg w K mg base k) (aSs b)) : GoodNE Pg w K mg base (k + 1) ⟨x, ps, runDefN N.length b⟩ := by
  subst ed
  obtain ⟨fd, F⟩ := T.c.defs hd
  exact ⟨_, fd, T.glo hg, F.kp, FunD.bindsN F hb, run_okN F S hm hf T.free⟩
theorem Tx.goodS {fa : List He.Fa} {fn : List He.DefD} (T : Tx fa fn K mg) {d : He.DefD} (hd : d ∈ fn) (hg : He.Fa.glo d.name ∈ fa) {x : Str} {pr : Arguments} {bd : List Stmt} {sc : Scope} (ed : d = ⟨(x, none), x, x, pr, bd, sc, [], []⟩) {N ps : List Str} {b : Ss} {k : Nat} (S : FnScope N ps sc)
    (hb : ∀ (kV doc pm : Value) (an : Option Addr) (cdv ct : Value) (us : List Value), us.length = ps.length → bindArgs (PySem.W.fnOf x x pr bd sc .none kV doc pm an cdv ct) ⟨us, []⟩ = pure (ps.zip us)) (hm : mSs b (ctOf N sc) bd = true)
    (hf : AllP (KnowE Pg w K mg base k) (aSs b)) : GoodSE Pg w K mg base (k + 1) ⟨x, ps, runDefS N.length b⟩ := by
  subst ed
  obtain ⟨fd, F⟩ := T.c.defs hd
  exact ⟨_, fd, T.glo hg, F.kp, FunD.bindsN F hb, run_okS F S hm hf T.free⟩
theorem Tx.goodSL {fa : List He.Fa} {fn : List He.DefD} (T : Tx fa fn K mg) {d : He.DefD} (hd : d ∈ fn) (hg : He.Fa.glo d.name ∈ fa) {x : Str} {pr : Arguments} {bd : List Stmt} {sc : Scope} (ed : d = ⟨(x, none), x, x, pr, bd, sc, [], []⟩) {N ps : List Str} {b : Ss} {k : Nat} (S : FnScope N ps sc)
    (hb : ∀ (kV doc pm : Value) (an : Option Addr) (cdv ct : Value) (us : List Value), us.length = ps.length → bindArgs (PySem.W.fnOf x x pr bd sc .none kV doc pm an cdv ct) ⟨us, []⟩ = pure (ps.zip us)) (hm : mSs b (ctOfL x N sc) bd = true)
    (hf : AllP (KnowE Pg w K mg base k) (aSs b)) : GoodSE Pg w K mg base (k + 1) ⟨x, ps, runDefS N.length b⟩ := by
  subst ed
  obtain ⟨fd, F⟩ := T.c.defs hd
  exact ⟨_, fd, T.glo hg, F.kp, FunD.bindsN F hb, run_okSL F S hm hf T.free⟩
theorem Tx.goodM {fa : List He.Fa} {fn : List He.DefD} (T : Tx fa fn K mg) {d : He.DefD} (hd : d ∈ fn) {C m q : Str} (hc : He.Fa.cls C ∈ fa) (ht : He.Fa.meth C m ∈ fa) {pr : Arguments} {bd : List Stmt} {sc : Scope} (ed : d = ⟨(C, some m), m, q, pr, bd, sc, [], []⟩) {N ps : List Str} {b : Ss} {k : Nat} (S : FnScope N ps sc)
    (hb : ∀ (kV doc pm : Value) (an : Option Addr) (cdv ct : Value) (us : List Value), us.length = ps.length → bindArgs (PySem.W.fnOf m q pr bd sc .none kV doc pm an cdv ct) ⟨us, []⟩ = pure (ps.zip us)) (hm : mSs b (ctOf N sc) bd = true)
    (hf : AllP (KnowE Pg w K mg base k) (aSs b)) : GoodME Pg w K mg base (k + 1) C ⟨m, ps, runDefS N.length b⟩ := by
  subst ed
  obtain ⟨fd, F⟩ := T.c.defs hd
  exact ⟨He.cls_ok (T.c.facts hc), _, fd, He.meth_ok (T.c.facts ht), FunD.bindsN F hb, run_okS F S hm hf T.free⟩
theorem Tx.goodI {fa : List He.Fa} {fn : List He.DefD} (T : Tx fa fn K mg) {d : He.DefD} (hd : d ∈ fn) {C q : Str} (hg : He.Fa.glo C ∈ fa) (hk : He.Fa.mkr C ∈ fa) {pr : Arguments} {bd : List Stmt} {sc : Scope} (ed : d = ⟨(C, some "__init__"), "__init__", q, pr, bd, sc, [], []⟩) {N ps : List Str} {b : Ss} {k : Nat} (S : FnScope N ps sc)
    (hb : ∀ (kV doc pm : Value) (an : Option Addr) (cdv ct : Value) (us : List Value), us.length = ps.length → bindArgs (PySem.W.fnOf "__init__" q pr bd sc .none kV doc pm an cdv ct) ⟨us, []⟩ = pure (ps.zip us)) (hm : mSs b (ctOf N sc) bd = true)
    (hf : AllP (KnowE Pg w K mg base k) (aSs b)) : GoodIE Pg w K mg base (k + 1) C ⟨"__init__", ps, runDefS N.length b⟩ := by
  subst ed
  obtain ⟨fd, F⟩ := T.c.defs hd
  exact ⟨T.glo hg, _, fd, He.mkr_ok (T.c.facts hk), FunD.bindsN F hb, run_okS F S hm hf T.free⟩
theorem Tx.goodH {fa : List He.Fa} {fn : List He.DefD} (T : Tx fa fn K mg) {d : He.DefD} (hd : d ∈ fn) (hg : He.Fa.glo d.name ∈ fa) {x : Str} {pr : Arguments} {bd : List Stmt} {sc : Scope} (ed : d = ⟨(x, none), x, x, pr, bd, sc, [], []⟩) {N ps : List Str} {b : Ss} {k : Nat} (S : FnScope N ps sc)
    (hb : ∀ (kV doc pm : Value) (an : Option Addr) (cdv ct : Value) (us : List Value), us.length = ps.length → bindArgs (PySem.W.fnOf x x pr bd sc .none kV doc pm an cdv ct) ⟨us, []⟩ = pure (ps.zip us)) (hps : ps.length = 1) (hm : mSs b (ctOfH N sc) bd = true)
    (hf : AllP (KnowE Pg w K mg base k) (aSs b)) : GoodHE Pg w K mg base (k + 1) ⟨x, ps, runDef N.length b⟩ := by
  subst ed
  obtain ⟨fd, F⟩ := T.c.defs hd
  exact ⟨_, fd, T.glo hg, F.kp, FunD.bindsN F hb, hps, run_okH F S hps hm hf T.free⟩
theorem Tx.goodMk {fa : List He.Fa} {fn : List He.DefD} (T : Tx fa fn K mg) {d : He.DefD} (hd : d ∈ fn) (hg : He.Fa.glo d.name ∈ fa) {x : Str} {pr : Arguments} {bd : List Stmt} {sc : Scope} (ed : d = ⟨(x, none), x, x, pr, bd, sc, [], []⟩) {N ps : List Str} {ls : List Lam} {i k : Nat} {y : Str} (S : FnScope N ps sc)
    (hb : ∀ (kV doc pm : Value) (an : Option Addr) (cdv ct : Value) (us : List Value), us.length = ps.length → bindArgs (PySem.W.fnOf x x pr bd sc .none kV doc pm an cdv ct) ⟨us, []⟩ = pure (ps.zip us)) (TB : LamX.TabB base mg (He.cT K (x, none)).1 (tabA K x)) (hB : mkB N sc ps.length i y ls bd = true) : GoodMkE Pg w K mg base (k + 1) x ps.length ls := by
  subst ed
  obtain ⟨fd, F⟩ := T.c.defs hd
  exact ⟨_, fd, ps, T.glo hg, F.kp, FunD.bindsN F hb, rfl, run_okM F S TB hB⟩
theorem Tx.isv {fa : List He.Fa} {fn : List He.DefD} (T : Tx fa fn K mg) {cs : List Str} {k : Nat} (hB : isvB cs K = true) : KnowE Pg w K mg base k (.isv cs) := fun c hc => eq_of_beq (List.all_eq_true.mp hB c hc)
theorem Tx.atr {fa : List He.Fa} {fn : List He.DefD} (T : Tx fa fn K mg) {C f : Str} {k : Nat} (hc : He.Fa.cls C ∈ fa) (hn : He.Fa.noat C f ∈ fa) : KnowE Pg w K mg base k (.atr C f) := ⟨He.cls_ok (T.c.facts hc), He.noat_ok (T.c.facts hn)⟩
theorem Tx.excC {fa : List He.Fa} {fn : List He.DefD} (T : Tx fa fn K mg) {c : Str} (h : He.Fa.exc c ∈ fa) (hg : He.Fa.glo c ∈ fa) : ExcOk K mg c := by
  obtain ⟨q1, q2, q3, q4⟩ := He.exc_ok (T.c.facts h)
  exact ⟨T.glo hg, q1, q2, q3, q4⟩
theorem Tx.int {fa : List He.Fa} {fn : List He.DefD} (T : Tx fa fn K mg) {x : Str} {i : Int} {k : Nat} (h : He.Fa.int x i ∈ fa) : KnowE Pg w K mg base k (.glb x (.int i)) := by
  obtain ⟨hp, X, G⟩ := T.x
  obtain ⟨t, e⟩ := He.int_ok X G (T.c.facts h)
  exact ⟨.int i, _, e, ⟨t, rfl⟩, fun _ => rfl⟩
theorem Tx.str {fa : List He.Fa} {fn : List He.DefD} (T : Tx fa fn K mg) {x z : Str} {k : Nat} (h : He.Fa.str x z ∈ fa) : KnowE Pg w K mg base k (.glb x (.str z)) := by
  obtain ⟨hp, X, G⟩ := T.x
  obtain ⟨t, e⟩ := He.str_ok X G (T.c.facts h)
  exact ⟨.str z, _, e, ⟨t, rfl⟩, fun _ => rfl⟩
theorem tupDB_ok {x : Str} (h : tupDB K x = true) (H : Hp) : NoD K H (He.ga K x) := by
  unfold tupDB at h
  split at h
  · rename_i o q
    rw [Bool.and_eq_true] at h
    exact .inr ⟨o, q, eq_of_beq h.1, Option.isNone_iff_eq_none.mp h.2⟩
  · cases h
/-- a tuple of texts of the module -/
theorem Tx.tupS {fa : List He.Fa} {fn : List He.DefD} (T : Tx fa fn K mg) {x : Str} {zs : List Str} {k : Nat} (h : He.Fa.glo x ∈ fa) (hB : (He.tupB K x (zs.map He.Dv.str) && tupDB K x) = true) : KnowE Pg w K mg base k (.glb x (.tuple (zs.map .str))) := by
  rw [Bool.and_eq_true] at hB
  refine ⟨.ref (He.ga K x), _, T.glo h, rfl, fun H0 => ⟨_, _, rfl, ⟨He.tupB_ok hB.1 H0, fun _ => tupDB_ok hB.2 H0⟩, ?_⟩⟩
  rw [List.map_map]
  exact DPs.strs zs
/-! errors: what the head must tell of the classes -/
theorem excCB_ok {c : Str} (h : excCB c K = true) : ExcC K (He.ga K c) := by
  simp only [excCB, Bool.and_eq_true, beq_iff_eq] at h
  obtain ⟨⟨⟨⟨⟨⟨⟨h1, h2⟩, h3⟩, h4⟩, h5⟩, h6⟩, h7⟩, h8⟩ := h
  exact ⟨h1, h2, h3, h4, h5, h6, h7, h8⟩
theorem Tx.isx {fa : List He.Fa} {fn : List He.DefD} (T : Tx fa fn K mg) {cs : List Str} {C : Str} {k : Nat} (h : He.Fa.glo C ∈ fa) (hB : isxB cs C K = true) : KnowE Pg w K mg base k (.isx cs C) :=
  ⟨T.glo h, fun c hc => eq_of_beq (List.all_eq_true.mp hB c hc)⟩
theorem Tx.isw {fa : List He.Fa} {fn : List He.DefD} (T : Tx fa fn K mg) {C : Str} {k : Nat} (h : He.Fa.glo C ∈ fa) (hc : He.Fa.cls C ∈ fa) (hB : wclsB C K = true) : KnowE Pg w K mg base k (.isw C) := by
  simp only [wclsB, Bool.and_eq_true, beq_iff_eq, List.all_eq_true] at hB
  obtain ⟨⟨⟨⟨⟨⟨h1, h2⟩, h3⟩, h4⟩, h5⟩, h6⟩, h7⟩ := hB
  exact ⟨T.glo h, He.cls_ok (T.c.facts hc), h1, h2, h3, h4, h5, fun t m => (h6 t m).1, fun t m => (h6 t m).2, h7⟩
theorem Tx.tri {fa : List He.Fa} {fn : List He.DefD} (T : Tx fa fn K mg) {cs : List Str} {C : Str} {k : Nat} (h : He.Fa.glo C ∈ fa) (hB : triB cs C K = true) : KnowE Pg w K mg base k (.tri cs C) :=
  ⟨T.glo h, fun c hc => by
    have q := List.all_eq_true.mp hB c hc
    rw [Bool.and_eq_true] at q
    exact ⟨eq_of_beq q.1, excCB_ok q.2⟩⟩
/-- the law's own promise -/
theorem law_sp {m : List U → R} {n : Nat} (hm : ∀ ns : List Int, ns.length ≤ n → m [.scr ns] = .ok (.bool true)) (H : Hp) (a : Addr) (ns : List Int) (hl : ns.length ≤ n) (hS : SqL K H a (ns.map V.int)) : spP K 1 m [.ref a] H (fun v _ => v = .bl true) fun _ _ _ => False := by
  refine ⟨rfl, [.scr ns], H, Same.refl _, ⟨_, _, rfl, ⟨a, rfl, hS⟩, rfl⟩, ?_⟩
  rw [hm ns hl]
  exact fun v H' H0' _ _ _ _ d => d
end
/-- what `walk_pd` asks, from the law's text and the plain law -/
theorem Tx.law_end {Pg : Program} {w : World} {K : PySem.W.Frag} {mg : Str → Option Value} {fa : List He.Fa} {fn : List He.DefD} (T : Tx fa fn K mg) {d : He.DefD} (hd : d ∈ fn) (hg : He.Fa.glo d.name ∈ fa) {x : Str} {pr : Arguments} {bd : List Stmt} {sc : Scope} (ed : d = ⟨(x, none), x, x, pr, bd, sc, [], []⟩) {N : List Str} {y : Str} {b : Ss} {k n : Nat} (S : FnScope N [y] sc)
    (hb : ∀ (kV doc pm : Value) (an : Option Addr) (cdv ct : Value) (us : List Value), us.length = [y].length → bindArgs (PySem.W.fnOf x x pr bd sc .none kV doc pm an cdv ct) ⟨us, []⟩ = pure ([y].zip us)) (hm : mSs b (ctOf N sc) bd = true)
    (hf : ∀ base : Heap, AllP (KnowE Pg w K mg base k) (aSs b)) (hlaw : ∀ ns : List Int, ns.length ≤ n → runDef N.length b [.scr ns] = .ok (.bool true)) {h : Heap} (KX : K.In h) {f : Addr} (hmg : mg x = some (.ref f)) :
    ∃ (K : PySem.W.Frag) (fd : FuncData) (sp : Sp), K.In h ∧ (∀ (s : Shared) (u : Value), BindsTo s fd ⟨[u], []⟩ [(y, u)]) ∧
        (∀ (H : Hp) (a : Addr) (ns : List Int), ns.length ≤ n → SqL K H a (ns.map V.int) → sp [.ref a] H (fun v _ => v = .bl true) fun _ _ _ => False) ∧ ∀ base : Heap, K.In base → base.Ns mainGlobals mg → FnOk Pg w K mg base (L2.CX Pg w) (k + 1) f fd [y] sp := by
  subst ed
  obtain ⟨fd, F⟩ := T.c.defs hd
  have e := T.glo hg
  have e2 : f = He.ga K x := by
    have := hmg.symm.trans e
    injection this with this
    injection this
  subst e2
  exact ⟨K, fd, _, KX, fun s u => FunD.bindsA (ps := [y]) F hb s [u] rfl, fun H a ns hl hS => law_sp (n := n) hlaw H a ns hl hS, fun base _ _ => run_ok F S hm (hf base) T.free⟩
/-- the end, over a head by facts -/
theorem walk_pd {l : PySem.W.OpenLaw} {n k : Nat} {q : Program} {loose : List Str} {XP : (Str → Option Value) → Heap → Prop} {YP : World → Heap → Prop} {d : DefRec} {x : Str} (hn : l.most = some n) (hn2 : n ≤ sizeLine) (hdf : d.params.defaults = []) (hr : Room k callerA)
    (F : ∀ (w : World) (mg : Str → Option Value) (fa : Addr) (h : Heap), YP w h → h.Ns mainGlobals mg → mg d.name = some (.ref fa) → ∃ (K : PySem.W.Frag) (fd : FuncData) (sp : Sp), K.In h ∧ (∀ (s : Shared) (u : Value), BindsTo s fd ⟨[u], []⟩ [(x, u)]) ∧
        (∀ (H : Hp) (a : Addr) (ns : List Int), ns.length ≤ n → SqL K H a (ns.map V.int) → sp [.ref a] H (fun v _ => v = .bl true) fun _ _ _ => False) ∧ ∀ base : Heap, K.In base → base.Ns mainGlobals mg → FnOk l.prog w K mg base (L2.CX l.prog w) k fa fd [x] sp) :
    PySem.W.WalkO q loose XP YP l.row.toRowW d [] (fun f vs => PySem.call f vs) := by
  refine Att.attach_call hn hdf fun w s0 s1 mg mb fa o pm cd doc a vs ns G Y ho hd hcd hmg hobj hints hlen hg => ?_
  obtain ⟨K, fd, sp, KX, hb, hsp, hF⟩ := F w mg fa _ Y G.T.g hmg
  refine law_call KX G.T.g G.T.b G.T.builtins G.T.nolimit hg hobj hints (Nat.le_trans hlen hn2) hr hF hb (fun H _ hS => hsp H a ns hlen hS) fun H e s' z => ?_
  obtain ⟨_, _, _, _, _, _, _, _, _, _, _, _, z⟩ := z
  exact z
/-! ### the end, with a table -/
theorem sqL_noT {K : PySem.W.Frag} {H : Hp} {a : Addr} {xs : List V} (h : SqL K H a xs) : SqL K (noT H) a xs := by
  rcases h with (h | ⟨o, h⟩) | h
  · exact .inl (.inl (noT_some h (fun _ z => nomatch z)))
  · exact .inl (.inr ⟨o, noT_some h (fun _ z => nomatch z)⟩)
  · exact .inr h
theorem Tx.law_endT {l : PySem.W.OpenLaw} {w : World} {K : PySem.W.Frag} {mg : Str → Option Value} {fa : List He.Fa} {fn : List He.DefD} (T : Tx fa fn K mg) {d : He.DefD} (hd : d ∈ fn) (hg : He.Fa.glo d.name ∈ fa) {x : Str} {pr : Arguments} {bd : List Stmt} {sc : Scope} (ed : d = ⟨(x, none), x, x, pr, bd, sc, [], []⟩) {N : List Str} {y : Str} (gs : List Str) {b : Ss} {k n : Nat} (S : FnScope N [y] sc)
    (hb : ∀ (kV doc pm : Value) (an : Option Addr) (cdv ct : Value) (us : List Value), us.length = [y].length → bindArgs (PySem.W.fnOf x x pr bd sc .none kV doc pm an cdv ct) ⟨us, []⟩ = pure ([y].zip us)) (hm : mSs b (ctOfL x N sc) bd = true)
    (hf : ∀ base : Heap, (∀ g ∈ gs, LamX.TabB base mg (He.cT K (g, none)).1 (tabA K g)) → AllP (KnowE l.prog w K mg base k) (aSs b)) (hlaw : ∀ ns : List Int, ns.length ≤ n → runDefT (gs.map .tab) N.length b [.scr ns] = .ok (.bool true)) {h : Heap} (KX : K.In h) (hnd : tabsB gs K = true)
    (t1 : ∀ g ∈ gs, PySem.W.codeHdIn K (He.cT K (g, none)).1 (tabA K g) = true) (t2 : ∀ g ∈ gs, K.lookup (tabA K g) = none) (t3 : ∀ g ∈ gs, h.get? (tabA K g) = some { cls := .none, data := .fields #[] }) {f : Addr} (hmg : mg x = some (.ref f)) :
    ∃ K : PySem.W.Frag, K.In h ∧ LamX.LawAtS l w K (L2.CX l.prog w) (k + 1) n y mg f h := by
  subst ed
  obtain ⟨fd, F⟩ := T.c.defs hd
  have e := T.glo hg
  have e2 : f = He.ga K x := by
    have := hmg.symm.trans e
    injection this with this
    injection this
  subst e2
  refine ⟨K, KX, fd, gs.map fun g => He.cT K (g, none), spT K gs 1 (runDefT (gs.map .tab) N.length b), fun p hp => ?_, fun p hp => ?_, fun p hp => ?_, fun s u => FunD.bindsA (ps := [y]) F hb s [u] rfl, fun H a ns hl _ hT hS => ?_, fun base _ _ hB => ?_⟩
  · obtain ⟨g, hg, rfl⟩ := List.mem_map.mp hp
    exact t3 g hg
  · obtain ⟨g, hg, rfl⟩ := List.mem_map.mp hp
    exact t2 g hg
  · obtain ⟨g, hg, rfl⟩ := List.mem_map.mp hp
    exact PySem.W.codeHd_of_K KX (t1 g hg)
  · refine ⟨rfl, [.scr ns], noT H, fun b x e => noT_sub e, nt_noT H, of_decide_eq_true hnd, fun g hg => ?_, ⟨_, _, rfl, ⟨a, rfl, sqL_noT hS⟩, rfl⟩, hlaw ns hl, fun _ => rfl⟩
    have hP : H (tabA K g) = some (.tbl #[]) := hT _ (List.mem_map.mpr ⟨g, hg, rfl⟩)
    refine ⟨?_, LamX.TabS.nil hP⟩
    unfold noT
    rw [hP]
  · exact run_okT F S hm (hf base fun g hg => hB _ (List.mem_map.mpr ⟨g, hg, rfl⟩)) T.free
theorem walk_pdT {l : PySem.W.OpenLaw} {n k : Nat} {q : Program} {loose : List Str} {XP : (Str → Option Value) → Heap → Prop} {YP : World → Heap → Prop} {d : DefRec} {x : Str} (hn : l.most = some n) (hn2 : n ≤ sizeLine) (hdf : d.params.defaults = []) (hr : Room k callerA)
    (F : ∀ (w : World) (mg : Str → Option Value) (fa : Addr) (h : Heap), YP w h → h.Ns mainGlobals mg → mg d.name = some (.ref fa) → ∃ K : PySem.W.Frag, K.In h ∧ LamX.LawAtS l w K (L2.CX l.prog w) k n x mg fa h) :
    PySem.W.WalkO q loose XP YP l.row.toRowW d [] (fun f vs => PySem.call f vs) := by
  refine LamX.walk_ofTsE (CX := fun w => L2.CX l.prog w) hn hn2 hdf hr F fun w H s e s' z => ?_
  obtain ⟨_, _, _, _, _, _, _, _, _, _, _, _, z⟩ := z
  exact z
end PD
section
set_option autoImplicit true
set_option relaxedAutoImplicit true
/-! Part P: how texts are evaluated in plain proofs. -/
namespace PD
open PySem L2
@[simp] theorem q1 : evalE (.var i) (r) (S) = (match r[i]? with | some (some u) => .ok u S | _ => .bad) := by first | (simp only [evalE]; done) | (simp only [evalE]; rfl)
@[simp] theorem q2 : evalE (.frz i) (r) (S) = (match cellAt r S i with | some (n, ds) => .ok (.d (.list ds)) (S.set n .dead) | none => .bad) := by first | (simp only [evalE]; done) | (simp only [evalE]; rfl)
@[simp] theorem q3 : evalE (.cst x) (z1) (S) = .ok (.d x) S := by first | (simp only [evalE]; done) | (simp only [evalE]; rfl)
@[simp] theorem q4 : evalE (.glb z1 x) (z2) (S) = .ok (.d x) S := by first | (simp only [evalE]; done) | (simp only [evalE]; rfl)
@[simp] theorem q5 : evalE (.fnv x) (z1) (S) = .ok (.fn x) S := by first | (simp only [evalE]; done) | (simp only [evalE]; rfl)
@[simp] theorem q6 : evalE (.bin o a b) (r) (S) = (evalE a r S).bind fun u S1 => (evalE b r S1).bind fun w S2 => op2 o.sem u w S2 := by first | (simp only [evalE]; done) | (simp only [evalE]; rfl)
@[simp] theorem q7 : evalE (.neg a) (r) (S) = (evalE a r S).bind negU := by first | (simp only [evalE]; done) | (simp only [evalE]; rfl)
@[simp] theorem q8 : evalE (.nt a) (r) (S) = (evalE a r S).bind fun u S1 => (lift (asB u) S1).bind fun b S2 => .ok (.d (.bool !b)) S2 := by first | (simp only [evalE]; done) | (simp only [evalE]; rfl)
@[simp] theorem q9 : evalE (.cmp o a b) (r) (S) = (evalE a r S).bind fun u S1 => (evalE b r S1).bind fun w S2 => cmp2 o.sem u w S2 := by first | (simp only [evalE]; done) | (simp only [evalE]; rfl)
@[simp] theorem q10 : evalE (.chn o o' a b c) (r) (S) = (evalE a r S).bind fun u S1 => (evalE b r S1).bind fun w S2 => (cmp2 o.sem u w S2).bind fun k S3 =>
      (lift (asB k) S3).bind fun k S3 => if k then (evalE c r S3).bind fun z S4 => cmp2 o'.sem w z S4 else .ok (.d (.bool false)) S3 := by first | (simp only [evalE]; done) | (simp only [evalE]; rfl)
@[simp] theorem q11 : evalE (.bop an ps) (r) (S) = evalB an ps r S := by first | (simp only [evalE]; done) | (simp only [evalE]; rfl)
@[simp] theorem q12 : evalE (.ife c a b) (r) (S) = (evalE c r S).bind fun u S1 => (lift (asB u) S1).bind fun k S2 => if k then evalE a r S2 else evalE b r S2 := by first | (simp only [evalE]; done) | (simp only [evalE]; rfl)
@[simp] theorem q13 : evalE (.call fe ps) (r) (S) = (evalEs ps r S).bind fun us S1 => callU fe us S1 := by first | (simp only [evalE]; done) | (simp only [evalE]; rfl)
@[simp] theorem q14 : evalE (.call0 fe) (z1) (S) = (callU fe [] S).calm := by first | (simp only [evalE]; done) | (simp only [evalE]; rfl)
@[simp] theorem q15 : evalE (.blt b ps) (r) (S) = (evalEs ps r S).bind fun us S1 => bltU b us S1 := by first | (simp only [evalE]; done) | (simp only [evalE]; rfl)
@[simp] theorem q16 : evalE (.lset a) (r) (S) = (evalE a r S).bind fun u S1 => bltU .lenSet [u] S1 := by first | (simp only [evalE]; done) | (simp only [evalE]; rfl)
@[simp] theorem q17 : evalE (.lrg1 a) (r) (S) = (evalE a r S).bind fun u S1 => bltU .lrg1 [u] S1 := by first | (simp only [evalE]; done) | (simp only [evalE]; rfl)
@[simp] theorem q18 : evalE (.lrg2 a b) (r) (S) = (evalE a r S).bind fun u S1 => (evalE b r S1).bind fun w S2 => bltU .lrg2 [u, w] S2 := by first | (simp only [evalE]; done) | (simp only [evalE]; rfl)
@[simp] theorem q19 : evalE (.isi a t) (r) (S) = (evalE a r S).bind fun u S1 => isiU t u S1 := by first | (simp only [evalE]; done) | (simp only [evalE]; rfl)
@[simp] theorem q20 : evalE (.idx a b) (r) (S) = (evalE a r S).bind fun u S1 => (evalE b r S1).bind fun w S2 => idxU u w S2 := by first | (simp only [evalE]; done) | (simp only [evalE]; rfl)
@[simp] theorem q21 : evalE (.slc a lo hi) (r) (S) = (evalE a r S).bind fun u S1 => (evalO lo r S1).bind fun l S2 => (evalO hi r S2).bind fun h S3 => slcU u l h S3 := by first | (simp only [evalE]; done) | (simp only [evalE]; rfl)
@[simp] theorem q22 : evalE (.tup ps) (r) (S) = (evalEs ps r S).bind tupU := by first | (simp only [evalE]; done) | (simp only [evalE]; rfl)
@[simp] theorem q23 : evalE (.lst ps) (r) (S) = (evalEs ps r S).bind lstU := by first | (simp only [evalE]; done) | (simp only [evalE]; rfl)
@[simp] theorem q24 : evalE (.newl ps) (r) (S) = (evalEs ps r S).bind newlU := by first | (simp only [evalE]; done) | (simp only [evalE]; rfl)
@[simp] theorem q25 : evalE (.mth m a ps) (r) (S) = (evalE a r S).bind fun u S1 => if recvU m S1 u then (evalEs ps r S1).bind fun us S2 => mthU m u us S2 else .bad := by first | (simp only [evalE]; done) | (simp only [evalE]; rfl)
@[simp] theorem q26 : evalE (.app i a) (r) (S) = if (cellAt r S i).isSome then (evalE a r S).bind fun u S1 => appU r i u S1 else .bad := by first | (simp only [evalE]; done) | (simp only [evalE]; rfl)
@[simp] theorem q27 : evalE (.ext i a) (r) (S) = if (cellAt r S i).isSome then (evalE a r S).bind fun u S1 => extU r i u S1 else .bad := by first | (simp only [evalE]; done) | (simp only [evalE]; rfl)
@[simp] theorem q28 : evalE (.popA i a) (r) (S) = if (cellAt r S i).isSome then (evalE a r S).bind fun u S1 => popAU r i u S1 else .bad := by first | (simp only [evalE]; done) | (simp only [evalE]; rfl)
@[simp] theorem q29 : evalE (.pop i) (r) (S) = popU r i S := by first | (simp only [evalE]; done) | (simp only [evalE]; rfl)
@[simp] theorem q30 : evalE (.newd ks ps) (r) (S) = (evalEs ps r (S ++ [.dct []])).bind fun us S1 => newdU S.length ks us S1 := by first | (simp only [evalE]; done) | (simp only [evalE]; rfl)
@[simp] theorem q31 : evalE (.dget a b) (r) (S) = (evalE a r S).bind fun u S1 => (evalE b r S1).bind fun w S2 => dgetU u w S2 := by first | (simp only [evalE]; done) | (simp only [evalE]; rfl)
@[simp] theorem q61 : evalE (.rev a) (r) (S) = (evalE a r S).bind fun u S1 => revU u S1 := by first | (simp only [evalE]; done) | (simp only [evalE]; rfl)
@[simp] theorem q64 : evalE (.newlc a) (r) (S) = (evalE a r S).bind fun u S1 => newlcU u S1 := by first | (simp only [evalE]; done) | (simp only [evalE]; rfl)
@[simp] theorem q65 : evalE .newd0 (r) (S) = .ok (.loc S.length) (S ++ [.dct []]) := by first | (simp only [evalE]; done) | (simp only [evalE]; rfl)
@[simp] theorem q66 : evalE (.dget2 a k d) (r) (S) = (evalE a r S).bind fun u S1 => if (tabAt S1 u).isSome then (evalE k r S1).bind fun w S2 => (evalE d r S2).bind fun z S3 => dget2U u w z S3 else .bad := by first | (simp only [evalE]; done) | (simp only [evalE]; rfl)
@[simp] theorem q62 : evalE (.callx fes w ps) (r) (S) = (evalE w r S).bind fun u S1 => (lift (pickF fes u) S1).bind fun fe S2 => (evalEs ps r S2).bind fun us S3 => callU fe us S3 := by first | (simp only [evalE]; done) | (simp only [evalE]; rfl)
@[simp] theorem q63 : evalE (.isx i cs C) (r) (S) = isxU r i cs C S := by first | (simp only [evalE]; done) | (simp only [evalE]; rfl)
theorem ev_calls : evalE (.calls fs ps) r S = (evalEs ps r S).bind fun us S1 => callS fs us S1 := by first | (simp only [evalE]; done) | (simp only [evalE]; rfl)
theorem ev_mcall : evalE (.mcall C fs a ps) r S = (evalE a r S).bind fun u S1 => if methAt C fs.name S1 u then (evalEs ps r S1).bind fun us S2 => callS fs (u :: us) S2 else .bad := by first | (simp only [evalE]; done) | (simp only [evalE]; rfl)
theorem ev_make : evalE (.make C fs ps) r S = (evalEs ps r S).bind fun us S1 => makeU C fs us S1 := by first | (simp only [evalE]; done) | (simp only [evalE]; rfl)
theorem ev_attr : evalE (.attr C a f) r S = (evalE a r S).bind fun u S1 => attrU C u f S1 := by first | (simp only [evalE]; done) | (simp only [evalE]; rfl)
theorem ev_appE : evalE (.appE a b) r S = (evalE a r S).bind fun u S1 => if (lstAt S1 u).isSome then (evalE b r S1).bind fun w S2 => appEU u w S2 else .bad := by first | (simp only [evalE]; done) | (simp only [evalE]; rfl)
theorem ev_popE : evalE (.popE a) r S = (evalE a r S).bind fun u S1 => popEU u S1 := by first | (simp only [evalE]; done) | (simp only [evalE]; rfl)
theorem ev_lenO : evalE (.lenO C fs a) r S = (evalE a r S).bind fun u S1 => lenOU C fs u S1 := by first | (simp only [evalE]; done) | (simp only [evalE]; rfl)
theorem ev_eqO : evalE (.eqO ng C fs a b) r S = (evalE a r S).bind fun u S1 => (evalE b r S1).bind fun w S2 => eqOU ng C fs u w S2 := by first | (simp only [evalE]; done) | (simp only [evalE]; rfl)
theorem ev_isw : evalE (.isw a C) r S = (evalE a r S).bind fun u S1 => iswU C u S1 := by first | (simp only [evalE]; done) | (simp only [evalE]; rfl)
theorem ev_callN : evalE (.callN fe ps) r S = (evalEs ps r S).bind fun us S1 => callNU fe us S1 := by first | (simp only [evalE]; done) | (simp only [evalE]; rfl)
theorem ev_lstL : evalE (.lstL ps) r S = (evalEs ps r S).bind fun us S1 => .ok (.ll us) S1 := by first | (simp only [evalE]; done) | (simp only [evalE]; rfl)
theorem ev_sortA : evalE (.sortA f i a) r S = (evalE a r S).bind fun u S1 => sortAU f r i u S1 := by first | (simp only [evalE]; done) | (simp only [evalE]; rfl)
theorem ev_insA : evalE (.insA i a b) r S = if (cellAt r S i).isSome then (evalE a r S).bind fun u S1 => (evalE b r S1).bind fun w S2 => insU r i u w S2 else .bad := by first | (simp only [evalE]; done) | (simp only [evalE]; rfl)
@[simp] theorem it5 : itemsU S (.ll us) = some us := rfl
@[simp] theorem gu5 : guardU S (.ll x) = none := rfl
theorem ev_setf : evalS (.setf C a f v) r S = ((evalE v r S).bind fun z S1 => (evalE a r S1).bind fun u S2 => setfU C u f z S2).out r fun _ S3 => .next r S3 := by first | (simp only [evalS]; done) | (simp only [evalS]; rfl)
theorem ev_setf2 : evalS (.setf2 C a f b g x y) r S = ((evalE x r S).bind fun z S1 => (evalE y r S1).bind fun w S2 => (evalE a r S2).bind fun u S3 => (setfU C u f z S3).bind fun _ S4 => (evalE b r S4).bind fun u2 S5 => setfU C u2 g w S5).out r fun _ S6 => .next r S6 := by first | (simp only [evalS]; done) | (simp only [evalS]; rfl)
theorem ev_try : evalS (.tryx cs C i body hand) (r) (S) = (match evalSs body r S with
      | .exc c r1 S1 => if c ∈ cs then handOut (evalSs hand (r1.set i (some (.exn c))) S1) else .bad
      | o => o) := by first | (simp only [evalS]; done) | (simp only [evalS]; rfl)
@[simp] theorem pickF_i : pickF fes (.d (.int i)) = atI fes i := rfl
theorem revU_t (h : strT xs.reverse = false) : revU (.d (.tuple xs)) S = .ok (.d (.tuple xs.reverse)) S := by simp [revU, rd, revD, h]
theorem revU_l : revU (.d (.list xs)) S = .ok (.d (.list xs.reverse)) S := rfl
theorem ev_lc : evalE (.lc own g it c e) (r) (S) = (evalI it r S).bind fun w S1 => (lcLoop w.2 (fun u S2 => ((lift (setT g u (wipeR r (own.map (·.2)))) S2).bind fun r2 S2 =>
      (evalC c r2 S2).bind fun k S3 => if k then (evalE e r2 S3).bind fun z S4 => (lift (asD z) S4).bind fun x S5 => .ok [x] S5 else .ok [] S3).calm) w.1 S1).bind fitsL := by first | (simp only [evalE]; done) | (simp only [evalE]; rfl)
theorem ev_lc2 : evalE (.lc2 own g it g1 it1 c e) (r) (S) = (evalI it r S).bind fun w S1 => (lcLoop w.2 (fun u S2 => ((lift (setT g u (wipeR r (own.map (·.2)))) S2).bind fun r2 S2 =>
      (evalI it1 r2 S2).bind fun w1 S3 => lcLoop w1.2 (fun u1 S4 => ((lift (setT g1 u1 (wipeR r2 g1.slots)) S4).bind fun r3 S4 =>
        (evalC c r3 S4).bind fun k S5 => if k then (evalE e r3 S5).bind fun z S6 => (lift (asD z) S6).bind fun x S7 => .ok [x] S7 else .ok [] S5).calm) w1.1 S3).calm) w.1 S1).bind fitsL := by first | (simp only [evalE]; done) | (simp only [evalE]; rfl)
@[simp] theorem q34 : evalEs (.nil) (z1) (S) = .ok [] S := by first | (simp only [evalEs]; done) | (simp only [evalEs]; rfl)
@[simp] theorem q35 : evalEs (.cons a r') (r) (S) = (evalE a r S).bind fun u S1 => (evalEs r' r S1).bind fun us S2 => .ok (u :: us) S2 := by first | (simp only [evalEs]; done) | (simp only [evalEs]; rfl)
@[simp] theorem q36 : evalB (z1) (.nil) (z2) (z3) = .bad := by first | (simp only [evalB]; done) | (simp only [evalB]; rfl)
@[simp] theorem q37 : evalB (an) (.cons a .nil) (r) (S) = (evalE a r S).bind fun u S1 => (lift (asB u) S1).bind fun k S2 => .ok (.d (.bool k)) S2 := by first | (simp only [evalB]; done) | (simp only [evalB]; rfl)
@[simp] theorem q38 : evalB (an) (.cons a (.cons b r')) (r) (S) = (evalE a r S).bind fun u S1 => (lift (asB u) S1).bind fun k S2 => if k == an then evalB an (.cons b r') r S2 else .ok (.d (.bool k)) S2 := by first | (simp only [evalB]; done) | (simp only [evalB]; rfl)
@[simp] theorem q39 : evalO (.no) (z1) (S) = .ok none S := by first | (simp only [evalO]; done) | (simp only [evalO]; rfl)
@[simp] theorem q40 : evalO (.yes a) (r) (S) = (evalE a r S).bind fun u S1 => (match u with | .d (.int i) => .ok (some i) S1 | _ => .bad) := by first | (simp only [evalO]; done) | (simp only [evalO]; rfl)
@[simp] theorem q41 : evalC (.no) (z1) (S) = .ok true S := by first | (simp only [evalC]; done) | (simp only [evalC]; rfl)
@[simp] theorem q42 : evalC (.yes a) (r) (S) = (evalE a r S).bind fun u S1 => lift (asB u) S1 := by first | (simp only [evalC]; done) | (simp only [evalC]; rfl)
@[simp] theorem q43 : evalI (.ex a) (r) (S) = (evalE a r S).bind fun u S1 => (lift (itemsU S1 u) S1).bind fun us S2 => .ok (us, guardU S2 u) S2 := by first | (simp only [evalI]; done) | (simp only [evalI]; rfl)
@[simp] theorem q44 : evalI (.rg1 a) (r) (S) = (evalE a r S).bind fun u S1 => (match u with | .d (.int n) => if n ≤ 100000 ∧ -100000 ≤ n then .ok ((rangeD 0 n).map .d, none) S1 else .bad | _ => .bad) := by first | (simp only [evalI]; done) | (simp only [evalI]; rfl)
@[simp] theorem q45 : evalI (.rg2 a b) (r) (S) = (evalE a r S).bind fun u S1 => (evalE b r S1).bind fun w S2 => (match u, w with
      | .d (.int m), .d (.int n) => if n ≤ 100000 ∧ -100000 ≤ m ∧ m ≤ 100000 ∧ -100000 ≤ n ∧ n - m ≤ 100000 then .ok ((rangeD m n).map .d, none) S2 else .bad
      | _, _ => .bad) := by first | (simp only [evalI]; done) | (simp only [evalI]; rfl)
@[simp] theorem q67 : evalI (.zp3 ps) (r) (S) = (evalEs ps r S).bind fun us S1 => (match us with | [.d (.list xs), .d (.list ys), .d (.list zs)] => if xs.length = ys.length ∧ ys.length = zs.length then .ok (zip3U xs ys zs, none) S1 else .bad | _ => .bad) := by first | (simp only [evalI]; done) | (simp only [evalI]; rfl)
@[simp] theorem q70 : evalI (.exs a) (r) (S) = (evalE a r S).bind fun u S1 => (match u with | .d (.str z) => .ok (signsU z, none) S1 | _ => .bad) := by first | (simp only [evalI]; done) | (simp only [evalI]; rfl)
@[simp] theorem q46 : evalI (.enm a) (r) (S) = (evalE a r S).bind fun u S1 => (match u with | .d (.list xs) => .ok (enumFrom 0 xs, none) S1 | _ => .bad) := by first | (simp only [evalI]; done) | (simp only [evalI]; rfl)
@[simp] theorem q47 : evalS (.asg g a) (r) (S) = (evalE a r S).out r fun u S1 => nextO S1 (setT g u r) := by first | (simp only [evalS]; done) | (simp only [evalS]; rfl)
@[simp] theorem q48 : evalS (.par i j a b) (r) (S) = ((evalE a r S).bind fun u S1 => (evalE b r S1).bind fun w S2 => .ok (u, w) S2).out r fun p S1 => .next ((r.set i (some p.1)).set j (some p.2)) S1 := by first | (simp only [evalS]; done) | (simp only [evalS]; rfl)
@[simp] theorem q49 : evalS (.par3 i j k a b c) (r) (S) = ((evalE a r S).bind fun u S1 => (evalE b r S1).bind fun w S2 => (evalE c r S2).bind fun z S3 => .ok (u, w, z) S3).out r fun p S1 => .next (((r.set i (some p.1)).set j (some p.2.1)).set k (some p.2.2)) S1 := by first | (simp only [evalS]; done) | (simp only [evalS]; rfl)
@[simp] theorem q50 : evalS (.expr a) (r) (S) = (evalE a r S).out r fun _ S1 => .next r S1 := by first | (simp only [evalS]; done) | (simp only [evalS]; rfl)
@[simp] theorem q51 : evalS (.ite c a b) (r) (S) = ((evalE c r S).bind fun u S1 => lift (asB u) S1).out r fun k S1 => if k then evalSs a r S1 else evalSs b r S1 := by first | (simp only [evalS]; done) | (simp only [evalS]; rfl)
@[simp] theorem q52 : evalS (.ret a) (r) (S) = (evalE a r S).out r fun u S1 => .ret u S1 := by first | (simp only [evalS]; done) | (simp only [evalS]; rfl)
@[simp] theorem q53 : evalS (.retN) (z1) (S) = .ret (.d .none) S := by first | (simp only [evalS]; done) | (simp only [evalS]; rfl)
theorem ev_for : evalS (.forr g it b) (r) (S) = (evalI it r S).out r fun w S1 => forLoop w.2 (fun u r S => match setT g u r with | some r' => evalSs b r' S | none => .bad) w.1 r S1 := by first | (simp only [evalS]; done) | (simp only [evalS]; rfl)
theorem ev_while : evalS (.whil n c b) (r) (S) = whileLoop (fun r S => evalE c r S) (fun r S => evalSs b r S) n r S := by first | (simp only [evalS]; done) | (simp only [evalS]; rfl)
@[simp] theorem q56 : evalS (.rais c) (r) (S) = .exc c r S := by first | (simp only [evalS]; done) | (simp only [evalS]; rfl)
@[simp] theorem q57 : evalS (.pass) (r) (S) = .next r S := by first | (simp only [evalS]; done) | (simp only [evalS]; rfl)
@[simp] theorem q58 : evalS (.dput a k v) (r) (S) = ((evalE v r S).bind fun z S1 => (evalE a r S1).bind fun u S2 => (evalE k r S2).bind fun w S3 => dputU u w z S3).out r fun _ S4 => .next r S4 := by first | (simp only [evalS]; done) | (simp only [evalS]; rfl)
@[simp] theorem q59 : evalSs (.nil) (r) (S) = .next r S := by first | (simp only [evalSs]; done) | (simp only [evalSs]; rfl)
@[simp] theorem q60 : evalSs (.cons a b) (r) (S) = (evalS a r S).seq fun r' S' => evalSs b r' S' := by first | (simp only [evalSs]; done) | (simp only [evalSs]; rfl)
theorem try_exc {c : Str} {r1 : Rho} {S1 : Store} (h : evalSs body r S = .exc c r1 S1) (hc : c ∈ cs) : evalS (.tryx cs C i body hand) r S = handOut (evalSs hand (r1.set i (some (.exn c))) S1) := by
  rw [ev_try, h]
  dsimp only
  rw [if_pos hc]
theorem try_ret {u : U} {S1 : Store} (h : evalSs body r S = .ret u S1) : evalS (.tryx cs C i body hand) r S = .ret u S1 := by rw [ev_try, h]
theorem try_next {r1 : Rho} {S1 : Store} (h : evalSs body r S = .next r1 S1) : evalS (.tryx cs C i body hand) r S = .next r1 S1 := by rw [ev_try, h]
/-! reading -/
@[simp] theorem rd_d : rd S (.d x) = some x := rfl
@[simp] theorem rd_scr : rd S (.scr nz) = some (.list (nz.map .int)) := rfl
@[simp] theorem rd1_d : rd1 S (.d x) = some x := rfl
@[simp] theorem rds_nil : rds S [] = some [] := rfl
@[simp] theorem rds_cons : rds S (u :: us) = (rd S u).bind fun x => (rds S us).map (x :: ·) := rfl
@[simp] theorem asD_d : asD (.d x) = some x := rfl
@[simp] theorem asDs_nil : asDs [] = some [] := rfl
@[simp] theorem asDs_cons : asDs (u :: us) = (asD u).bind fun x => (asDs us).map (x :: ·) := rfl
@[simp] theorem asD_loc : asD (.loc n) = none := rfl
@[simp] theorem asD_scr : asD (.scr n) = none := rfl
@[simp] theorem asB_b : asB (.d (.bool b)) = some b := rfl
theorem rd_loc (h : S[n]? = some (.lst ds)) : rd S (.loc n) = some (.list ds) := by simp [rd, h]
theorem rd1_loc (h : S[n]? = some (.lst ds)) : rd1 S (.loc n) = some (.list ds) := by simp [rd1, h]
def rU (o : Option PyData) (S : Store) : Res U := match o with | some z => .ok (.d z) S | none => .bad
@[simp] theorem rU_some : rU (some z) S = .ok (.d z) S := rfl
@[simp] theorem op2_d : op2 f (.d x) (.d y) S = rU (f x y) S := rfl
def rB (o : Option Bool) (S : Store) : Res U := match o with | some z => .ok (.d (.bool z)) S | none => .bad
@[simp] theorem rB_some : rB (some z) S = .ok (.d (.bool z)) S := rfl
@[simp] theorem cmp2_d : cmp2 f (.d x) (.d y) S = rB (f x y) S := rfl
@[simp] theorem cmp2_sd : cmp2 f (.scr nz) (.d y) S = rB (f (.list (nz.map .int)) y) S := rfl
@[simp] theorem negU_i : negU (.d (.int i)) S = .ok (.d (.int (-i))) S := rfl
@[simp] theorem isiU_d : isiU t (.d x) S = .ok (.d (.bool (t.sem x))) S := rfl
@[simp] theorem idxU_d : idxU (.d x) (.d y) S = rU (idxD x y) S := rfl
@[simp] theorem idxU_s : idxU (.scr nz) (.d y) S = rU (idxD (.list (nz.map .int)) y) S := rfl
@[simp] theorem slcU_d : slcU (.d x) lo hi S = rU (slcD lo hi x) S := rfl
@[simp] theorem tupU_def : tupU us S = (match asDs us with | some xs => .ok (.d (.tuple xs)) S | none => .ok (.tl us) S) := rfl
@[simp] theorem lstU_def : lstU us S = (match asDs us with | some xs => .ok (.d (.list xs)) S | none => .bad) := rfl
@[simp] theorem newlU_def : newlU us S = (match asDs us with | some xs => .ok (.loc S.length) (S ++ [.lst xs]) | none => .bad) := rfl
@[simp] theorem bltU_def : bltU b us S = (match rds S us with | some xs => rU (b.sem xs) S | none => .bad) := rfl
/-! operators -/
@[simp] theorem s1 : Bop.add.sem (.int i) (.int j) = some (.int (i + j)) := rfl
@[simp] theorem s2 : Bop.sub.sem (.int i) (.int j) = some (.int (i - j)) := rfl
@[simp] theorem s3 : Bop.add.sem (.list xs) (.list ys) = if xs.length + ys.length ≤ sizeLine then some (.list (xs ++ ys)) else none := rfl
@[simp] theorem s3t : Bop.add.sem (.tuple xs) (.tuple ys) = if xs.length + ys.length ≤ sizeLine ∧ strT (xs ++ ys) = false then some (.tuple (xs ++ ys)) else none := rfl
@[simp] theorem sT0 : strT [] = false := rfl
@[simp] theorem sT1 : strT (.int i :: xs) = false := rfl
@[simp] theorem sT2 : strT (.tuple ys :: xs) = false := rfl
@[simp] theorem sT3 : strT (.none :: xs) = false := rfl
@[simp] theorem sT4 : strT (.list ys :: xs) = false := rfl
@[simp] theorem sT5 : strT (.bool b :: xs) = false := rfl
@[simp] theorem sT6 : strT (.str x :: xs) = strA xs := rfl
@[simp] theorem sA0 : strA [] = true := rfl
@[simp] theorem sA6 : strA (.str x :: xs) = strA xs := rfl
theorem s4 (h : smallI j = true) : Bop.mul.sem (.int i) (.int j) = some (.int (i * j)) := by simp [Bop.sem, h]
theorem s4' (h : smallI i = true) : Bop.mul.sem (.int i) (.int j) = some (.int (i * j)) := by simp [Bop.sem, h]
theorem s5 {i j : Int} (h : 0 < j) (h2 : j < 18446744073709551616) : Bop.fdiv.sem (.int i) (.int j) = some (.int (i / j)) := by
  have h3 : 0 < j ∧ j < 2 ^ 64 := ⟨h, by omega⟩
  simp only [Bop.sem, if_pos h3]
theorem s6 (h : 0 < j) : Bop.mod.sem (.int i) (.int j) = some (.int (i % j)) := by simp [Bop.sem, h]
@[simp] theorem s7 : Bop.pow.sem (.int 10) (.int 18) = some (.int 1000000000000000000) := rfl
theorem small_of {i : Int} (h : 0 ≤ i) (h2 : i < 2 ^ 64) : smallI i = true := by simp only [smallI, Bool.and_eq_true, decide_eq_true_eq]; omega
@[simp] theorem t1 : Cop.eq.sem x y = eqD x y := rfl
@[simp] theorem t2 : Cop.ne.sem x y = (eqD x y).map not := rfl
@[simp] theorem t3 : Cop.lt.sem (.int i) (.int j) = some (decide (i < j)) := rfl
@[simp] theorem t4 : Cop.le.sem (.int i) (.int j) = some (decide (i ≤ j)) := rfl
@[simp] theorem t5 : Cop.gt.sem (.int i) (.int j) = some (decide (j < i)) := rfl
@[simp] theorem t6 : Cop.ge.sem (.int i) (.int j) = some (decide (j ≤ i)) := rfl
@[simp] theorem t7 : Cop.isin.sem x y = inD x y := rfl
@[simp] theorem t8 : Cop.notin.sem x y = (inD x y).map not := rfl
@[simp] theorem t9 : Cop.is.sem (.bool c) (.bool b) = some (decide (c = b)) := rfl
@[simp] theorem t10 : Cop.isnot.sem (.bool c) (.bool b) = some (!decide (c = b)) := rfl
@[simp] theorem t11 : Cop.is.sem x .none = some (isNoneD x) := rfl
@[simp] theorem t12 : Cop.isnot.sem x .none = some (!isNoneD x) := rfl
theorem eqD_of (h : min x.depth y.depth ≤ 64) : eqD x y = some (PyData.eqv x y) := by simp [eqD, h]
theorem eqD_l (h : x.depth ≤ 64) : eqD x y = some (PyData.eqv x y) := eqD_of (Nat.le_trans (Nat.min_le_left _ _) h)
theorem eqD_r (h : y.depth ≤ 64) : eqD x y = some (PyData.eqv x y) := eqD_of (Nat.le_trans (Nat.min_le_right _ _) h)
@[simp] theorem eqD_ii : eqD (.int i) (.int j) = some (decide (i = j)) := (eqD_l (by simp [PyData.depth])).trans (by simp [PyData.eqv]; rfl)
@[simp] theorem eqD_is : eqD (.int i) y = some (PyData.eqv (.int i) y) := eqD_l (by simp [PyData.depth])
@[simp] theorem eqD_s : eqD (.str i) y = some (PyData.eqv (.str i) y) := eqD_l (by simp [PyData.depth])
@[simp] theorem eqD_sr : eqD x (.str i) = some (PyData.eqv x (.str i)) := eqD_r (by simp [PyData.depth])
@[simp] theorem eqD_b : eqD (.bool i) y = some (PyData.eqv (.bool i) y) := eqD_l (by simp [PyData.depth])
@[simp] theorem eqD_e : eqD x (.tuple []) = some (PyData.eqv x (.tuple [])) := eqD_r (by decide)
@[simp] theorem eqD_el : eqD x (.list []) = some (PyData.eqv x (.list [])) := eqD_r (by decide)
@[simp] theorem ev_ii : PyData.eqv (.int i) (.int j) = decide (i = j) := by simp [PyData.eqv]; rfl
@[simp] theorem ev_ss : PyData.eqv (.str x) (.str y) = (x == y) := by simp [PyData.eqv]
@[simp] theorem ev_tt : PyData.eqv (.tuple x) (.tuple y) = PyData.eqvAll x y := by simp [PyData.eqv]
@[simp] theorem ev_ll : PyData.eqv (.list x) (.list y) = PyData.eqvAll x y := by simp [PyData.eqv]
@[simp] theorem ev_nn : PyData.eqvAll [] [] = true := by simp [PyData.eqvAll]
@[simp] theorem ev_nc : PyData.eqvAll [] (y :: ys) = false := by simp [PyData.eqvAll]
@[simp] theorem ev_cn : PyData.eqvAll (x :: xs) [] = false := by simp [PyData.eqvAll]
@[simp] theorem ev_cc : PyData.eqvAll (x :: xs) (y :: ys) = (PyData.eqv x y && PyData.eqvAll xs ys) := by simp [PyData.eqvAll]
/-! types -/
@[simp] theorem y1 : Ty.int.sem (.int i) = true := rfl
@[simp] theorem y2 : Ty.int.sem (.bool i) = true := rfl
@[simp] theorem y3 : Ty.bool.sem (.bool i) = true := rfl
@[simp] theorem y4 : Ty.bool.sem (.int i) = false := rfl
@[simp] theorem y5 : Ty.str.sem (.str i) = true := rfl
@[simp] theorem y6 : Ty.tuple.sem (.tuple i) = true := rfl
@[simp] theorem y7 : Ty.tuple.sem (.list i) = false := rfl
@[simp] theorem y8 : Ty.tuple.sem .none = false := rfl
@[simp] theorem y9 : Ty.tuple.sem (.int i) = false := rfl
/-! builtins -/
@[simp] theorem b1 : Blt.len.sem [.list xs] = some (.int xs.length) := rfl
@[simp] theorem b2 : Blt.len.sem [.tuple xs] = some (.int xs.length) := rfl
@[simp] theorem b3 : Blt.max2.sem [.int i, .int j] = some (.int (max i j)) := by
  simp only [Blt.sem]; congr 2; split <;> omega
@[simp] theorem b4 : Blt.min2.sem [.int i, .int j] = some (.int (min i j)) := by
  simp only [Blt.sem]; congr 2; split <;> omega
@[simp] theorem b5 : Blt.abs.sem [.int i] = some (.int (if i < 0 then -i else i)) := rfl
@[simp] theorem b6 : Blt.list.sem [.list xs] = some (.list xs) := rfl
@[simp] theorem b7 : Blt.list.sem [.tuple xs] = some (.list xs) := rfl
@[simp] theorem b8 : Blt.tuple.sem [.list xs] = some (.tuple xs) := rfl
@[simp] theorem b9 : Blt.tuple.sem [.tuple xs] = some (.tuple xs) := rfl
@[simp] theorem b10 : Blt.lenSet.sem [.tuple xs] = (strs? xs).bind fun ss => if ss.length ≤ 1000 then some (.int (distinct ss)) else none := rfl
@[simp] theorem b11 : Blt.all.sem [.list xs] = (bools? xs).map fun bs => .bool (bs.all id) := rfl
@[simp] theorem b12 : Blt.any.sem [.list xs] = (bools? xs).map fun bs => .bool (bs.any id) := rfl
@[simp] theorem b13 : Blt.lrg1.sem [.int n] = if n ≤ 100000 ∧ -100000 ≤ n then some (.list (rangeD 0 n)) else none := rfl
@[simp] theorem b14 : Blt.lrg2.sem [.int m, .int n] = if n ≤ 100000 ∧ -100000 ≤ m ∧ m ≤ 100000 ∧ -100000 ≤ n ∧ n - m ≤ 100000 then some (.list (rangeD m n)) else none := rfl
@[simp] theorem bo1 {α : Type} {xs : List α} {f : α → Bool} : bools? (xs.map fun x => .bool (f x)) = some (xs.map f) := by
  induction xs with
  | nil => rfl
  | cons x xs ih => simp [bools?, ih]
@[simp] theorem st1 {α : Type} {xs : List α} {f : α → Str} : strs? (xs.map fun x => .str (f x)) = some (xs.map f) := by
  induction xs with
  | nil => rfl
  | cons x xs ih => simp [strs?, ih]
/-! indexes -/
@[simp] theorem i1 : idxD (.list xs) (.int i) = atI xs i := rfl
@[simp] theorem i2 : idxD (.tuple xs) (.int i) = atI xs i := rfl
@[simp] theorem at0 : atI (x :: xs) 0 = some x := by simp [atI, ixN]
@[simp] theorem at1 : atI (x :: y :: xs) 1 = some y := by rw [atI, ixN, if_pos (by decide), if_pos (by simp only [List.length_cons]; omega)]; rfl
@[simp] theorem at2 : atI (x :: y :: z :: xs) 2 = some z := by rw [atI, ixN, if_pos (by decide), if_pos (by simp only [List.length_cons]; omega)]; rfl
@[simp] theorem at3 : atI (x :: y :: z :: t :: xs) 3 = some t := by rw [atI, ixN, if_pos (by decide), if_pos (by simp only [List.length_cons]; omega)]; rfl
theorem at_nat {xs : List α} {i : Int} {j : Nat} (h : i = j) (hj : j < xs.length) : atI xs i = some xs[j] := by
  subst h
  have h1 : (j : Int) < (xs.length : Int) := by omega
  simp [atI, ixN, h1, hj]
/-! targets -/
@[simp] theorem w1 : wipeR r [] = r := rfl
@[simp] theorem w2 : wipeR r (v :: vs) = (wipeR r vs).set v none := rfl
@[simp] theorem g1 : setT (.name i) u r = some (r.set i (some u)) := rfl
@[simp] theorem g2 : setT (.tup is) (.d (.tuple xs)) r = setIs is (xs.map .d) r := rfl
@[simp] theorem g3 : setT (.tup is) (.tl us) r = setIs is us r := rfl
@[simp] theorem g4 : setIs [] [] r = some r := rfl
@[simp] theorem g5 : setIs (i :: is) (u :: us) r = setIs is us (r.set i (some u)) := rfl
@[simp] theorem it1 : itemsU S (.d (.list xs)) = some (xs.map .d) := rfl
@[simp] theorem it2 : itemsU S (.d (.tuple xs)) = some (xs.map .d) := rfl
@[simp] theorem it3 : itemsU S (.tl us) = some us := rfl
theorem it4 (h : S[n]? = some (.lst ds)) : itemsU S (.loc n) = some (ds.map .d) := by simp [itemsU, h]
@[simp] theorem gu1 : guardU S (.d x) = none := rfl
@[simp] theorem gu2 : guardU S (.tl x) = none := rfl
theorem gu3 (h : S[n]? = some c) : guardU S (.loc n) = some (n, c) := by simp [guardU, h]
theorem cell_at (h : r[i]? = some (some (.loc n))) (h2 : S[n]? = some (.lst ds)) : cellAt r S i = some (n, ds) := by simp [cellAt, h, h2]
/-! loops -/
theorem lcLoop_of {g : Option (Nat × Cell)} {f : U → Store → Res (List PyData)} {h : U → List PyData} {S : Store} (hk : keeps g S = true) : ∀ {us : List U}, (∀ u ∈ us, f u S = .ok (h u) S) → lcLoop g f us S = .ok (us.flatMap h) S
  | [], _ => rfl
  | u :: us, e => by
    rw [lcLoop, e u (by simp), Res.ok_bind, if_pos hk, lcLoop_of hk (us := us) (fun x hx => e x (by simp [hx]))]
    simp
theorem forLoop_inv {g : Option (Nat × Cell)} {f : U → Rho → Store → Out} (I : List U → Rho → Store → Prop) (step : ∀ u us r S, I (u :: us) r S → ∃ r' S', f u r S = .next r' S' ∧ keeps g S' = true ∧ I us r' S') : ∀ us r S, I us r S → ∃ r' S', forLoop g f us r S = .next r' S' ∧ I [] r' S'
  | [], r, S, h => ⟨r, S, rfl, h⟩
  | u :: us, r, S, h => by
    obtain ⟨r', S', e, k, h'⟩ := step u us r S h
    rw [forLoop, e]
    simp only [k, if_true]
    exact forLoop_inv I step us r' S' h'
theorem for_goal {g : Option (Nat × Cell)} {f : U → Rho → Store → Out} {us : List U} {r : Rho} {S : Store} {Q : Out → Prop} (I : List U → Rho → Store → Prop) (hI : I us r S) (step : ∀ u us r S, I (u :: us) r S → ∃ r' S', f u r S = .next r' S' ∧ keeps g S' = true ∧ I us r' S') (fin : ∀ r' S', I [] r' S' → Q (.next r' S')) : Q (forLoop g f us r S) := by
  obtain ⟨r', S', e, h⟩ := forLoop_inv I step us r S hI
  rw [e]; exact fin r' S' h
/-- a loop that may return from within -/
theorem for_goal2 {g : Option (Nat × Cell)} {f : U → Rho → Store → Out} {Q : Out → Prop} (I : List U → Rho → Store → Prop) (step : ∀ u us r S, I (u :: us) r S → (∃ r' S', f u r S = .next r' S' ∧ keeps g S' = true ∧ I us r' S') ∨ (∃ x S', f u r S = .ret x S' ∧ Q (.ret x S'))) (fin : ∀ r' S', I [] r' S' → Q (.next r' S')) : ∀ {us : List U} {r : Rho} {S : Store}, I us r S → Q (forLoop g f us r S)
  | [], r, S, h => fin r S h
  | u :: us, r, S, h => by
    rcases step u us r S h with ⟨r', S', e, k, h'⟩ | ⟨x, S', e, h'⟩
    · rw [forLoop, e]
      simp only [k, if_true]
      exact for_goal2 I step fin h'
    · rw [forLoop, e]
      exact h'
theorem whileLoop_inv {c : Rho → Store → Res U} {f : Rho → Store → Out} (I : Nat → Rho → Store → Prop)
    (step : ∀ n r S, I n r S → (c r S = .ok (.d (.bool false)) S) ∨ (0 < n ∧ c r S = .ok (.d (.bool true)) S ∧ ∃ r' S', f r S = .next r' S' ∧ I (n - 1) r' S')) :
    ∀ fuel n r S, I n r S → n < fuel → ∃ r' S' m, whileLoop c f fuel r S = .next r' S' ∧ I m r' S' ∧ c r' S' = .ok (.d (.bool false)) S'
  | 0, n, r, S, h, hf => by omega
  | fuel + 1, n, r, S, h, hf => by
    rcases step n r S h with e | ⟨hn, e, r', S', e2, h2⟩
    · exact ⟨r, S, n, by rw [whileLoop, e], h, e⟩
    · obtain ⟨r'', S'', m, q1, q2, q3⟩ := whileLoop_inv I step fuel (n - 1) r' S' h2 (by omega)
      refine ⟨r'', S'', m, ?_, q2, q3⟩
      rw [whileLoop, e]
      simp only [e2]
      exact q1
theorem flat_one {α : Type} {h : α → PyData} : ∀ {xs : List α}, (xs.flatMap fun x => [h x]) = xs.map h
  | [] => rfl
  | x :: xs => by rw [List.flatMap_cons, flat_one]; rfl
theorem flat_if {α : Type} {p : α → Bool} {h : α → PyData} : ∀ {xs : List α}, (xs.flatMap fun x => if p x then [h x] else []) = (xs.filter p).map h
  | [] => rfl
  | x :: xs => by
    rw [List.flatMap_cons, flat_if]
    cases q : p x <;> simp [q]
theorem lcLoop_flat {α : Type} {g : Option (Nat × Cell)} {f : U → Store → Res (List PyData)} {w : α → U} {h : α → List PyData} {S : Store} (hk : keeps g S = true) : ∀ {xs : List α}, (∀ x ∈ xs, f (w x) S = .ok (h x) S) → lcLoop g f (xs.map w) S = .ok (xs.flatMap h) S
  | [], _ => rfl
  | u :: us, e => by
    rw [List.map_cons, lcLoop, e u (by simp), Res.ok_bind, if_pos hk, lcLoop_flat hk (xs := us) (fun x hx => e x (by simp [hx]))]
    simp
theorem lcLoop_map {α : Type} {g : Option (Nat × Cell)} {f : U → Store → Res (List PyData)} {w : α → U} {h : α → PyData} {S : Store} {us : List U} {xs : List α} (eu : us = xs.map w) (hk : keeps g S = true) (e : ∀ x ∈ xs, f (w x) S = .ok [h x] S) : lcLoop g f us S = .ok (xs.map h) S := by
  rw [eu, lcLoop_flat (h := fun x => [h x]) hk e, flat_one]
theorem lcLoop_filter {α : Type} {g : Option (Nat × Cell)} {f : U → Store → Res (List PyData)} {w : α → U} {p : α → Bool} {h : α → PyData} {S : Store} {us : List U} {xs : List α} (eu : us = xs.map w) (hk : keeps g S = true) (e : ∀ x ∈ xs, f (w x) S = .ok (if p x then [h x] else []) S) : lcLoop g f us S = .ok ((xs.filter p).map h) S := by
  rw [eu, lcLoop_flat (h := fun x => if p x then [h x] else []) hk e, flat_if]
theorem fitsL_ok {xs : List PyData} {S : Store} (h : xs.length ≤ 100000) : fitsL xs S = .ok (.d (.list xs)) S := by
  unfold fitsL; rw [if_pos (Nat.le_trans h (by decide))]
/-! calls -/
theorem cuOk {fe : FE} {us : List U} {x : PyData} {S : Store} (h : fe.m us = .ok x) (hl : (us.length == fe.ps.length && us.all U.closed) = true) : callU fe us S = .ok (.d x) S := by
  unfold callU; rw [if_pos hl, h]
theorem cuExc {fe : FE} {us : List U} {c : Str} {S : Store} (h : fe.m us = .exc c) (hl : (us.length == fe.ps.length && us.all U.closed) = true) : callU fe us S = .exc c S := by
  unfold callU; rw [if_pos hl, h]
def outS : Out → Res U
  | .ret u S => .ok u S
  | .next _ S => .ok (.d .none) S
  | .exc c _ S => .exc c S
  | _ => .bad
@[simp] theorem outS_ret : outS (.ret u S) = .ok u S := rfl
@[simp] theorem outS_next : outS (.next r S) = .ok (.d .none) S := rfl
@[simp] theorem outS_exc : outS (.exc c r S) = .exc c S := rfl
def outR : Out → R
  | .ret (.d x) _ => .ok x
  | .next _ _ => .ok .none
  | .exc c _ _ => .exc c
  | _ => .bad
def outN : Out → R
  | .ret (.loc m) S => (match S[m]? with | some (.lst xs) => .ok (.list xs) | _ => .bad)
  | .exc c _ _ => .exc c
  | _ => .bad
@[simp] theorem outN_ret : outN (.ret (.loc m) S) = (match S[m]? with | some (.lst xs) => .ok (.list xs) | _ => .bad) := rfl
@[simp] theorem outN_exc : outN (.exc c r S) = .exc c := rfl
theorem cnOk {fe : FE} {us : List U} {xs : List PyData} {S : Store} (h : fe.m us = .ok (.list xs)) (hl : (us.length == fe.ps.length && us.all U.closed) = true) : callNU fe us S = .ok (.loc S.length) (S ++ [.lst xs]) := by
  unfold callNU; rw [if_pos hl, h]
theorem runDef_eq : runDef n b us = outR (evalSs b (us.map some ++ List.replicate (n - us.length) none) []) := rfl
@[simp] theorem outR_ret : outR (.ret (.d x) S) = .ok x := rfl
@[simp] theorem outR_next : outR (.next r S) = .ok .none := rfl
@[simp] theorem outR_exc : outR (.exc c r S) = .exc c := rfl
/-! depth -/
theorem depthAll_map {f : α → PyData} {n : Nat} {xs : List α} (h : ∀ x ∈ xs, (f x).depth ≤ n) : PyData.depthAll (xs.map f) ≤ n := by
  induction xs with
  | nil => exact Nat.zero_le _
  | cons x xs ih =>
    have h1 := h x (by simp)
    have h2 := ih fun y hy => h y (by simp [hy])
    show max (PyData.depth (f x)) (PyData.depthAll (xs.map f)) ≤ n
    omega
end PD

end
namespace LW
open PySem PD
def N_is_int : List Str := ["value", "least", "most"]
noncomputable def b_is_int : Ss := (.cons (.ret (.bop true (.cons (.isi (.var 0) .int) (.cons (.nt (.isi (.var 0) .bool)) (.cons (.chn .le .le (.var 1) (.var 0) (.var 2)) .nil)))))
  .nil)
noncomputable def fe_is_int : FE := ⟨"is_int", ["value", "least", "most"], runDef 3 b_is_int⟩
theorem mm_is_int (us : List U) : fe_is_int.m us = outR (evalSs b_is_int (us.map some ++ List.replicate (3 - us.length) none) []) := rfl
def N_is_size : List Str := ["value", "wide", "high"]
noncomputable def b_is_size : Ss := (.cons (.ite (.bop false (.cons (.nt (.isi (.var 0) .tuple)) (.cons (.cmp .ne (.blt .len (.cons (.var 0) .nil)) (.cst (.int 2))) .nil))) (.cons (.ret (.cst (.bool false)))
  .nil) .nil)
  (.cons (.ret (.bop true (.cons (.call fe_is_int (.cons (.idx (.var 0) (.cst (.int 0))) (.cons (.cst (.int 1)) (.cons (.var 1) .nil)))) (.cons (.call fe_is_int (.cons (.idx (.var 0) (.cst (.int 1))) (.cons (.cst (.int 1)) (.cons (.var 2) .nil)))) .nil))))
  .nil))
noncomputable def fe_is_size : FE := ⟨"is_size", ["value", "wide", "high"], runDef 3 b_is_size⟩
theorem mm_is_size (us : List U) : fe_is_size.m us = outR (evalSs b_is_size (us.map some ++ List.replicate (3 - us.length) none) []) := rfl
def N_is_side : List Str := ["value"]
noncomputable def b_is_side : Ss := (.cons (.ret (.bop true (.cons (.isi (.var 0) .str) (.cons (.cmp .isin (.var 0) (.glb "SIDES" (.tuple [(.str "top"), (.str "bottom"), (.str "left"), (.str "right")]))) .nil))))
  .nil)
noncomputable def fe_is_side : FE := ⟨"is_side", ["value"], runDef 1 b_is_side⟩
theorem mm_is_side (us : List U) : fe_is_side.m us = outR (evalSs b_is_side (us.map some ++ List.replicate (1 - us.length) none) []) := rfl
def N_are_sides : List Str := ["value", "side"]
noncomputable def c_are_sides_1 : P := (.lc [("side", 1)] (.name 1) (.ex (.var 0)) .no (.call fe_is_side (.cons (.var 1) .nil)))
noncomputable def b_are_sides : Ss := (.cons (.ite (.bop false (.cons (.nt (.isi (.var 0) .tuple)) (.cons (.cmp .eq (.var 0) (.tup .nil)) (.cons (.nt (.blt .all (.cons c_are_sides_1 .nil))) .nil)))) (.cons (.ret (.cst (.bool false)))
  .nil) .nil)
  (.cons (.ret (.cmp .eq (.lset (.var 0)) (.blt .len (.cons (.var 0) .nil))))
  .nil))
noncomputable def fe_are_sides : FE := ⟨"are_sides", ["value"], runDef 2 b_are_sides⟩
theorem mm_are_sides (us : List U) : fe_are_sides.m us = outR (evalSs b_are_sides (us.map some ++ List.replicate (2 - us.length) none) []) := rfl
def N_is_setting : List Str := ["candidate", "screen", "box", "gap", "sides"]
noncomputable def b_is_setting : Ss := (.cons (.ite (.bop false (.cons (.nt (.isi (.var 0) .tuple)) (.cons (.cmp .ne (.blt .len (.cons (.var 0) .nil)) (.cst (.int 4))) .nil))) (.cons (.ret (.cst (.bool false)))
  .nil) .nil)
  (.cons (.asg (.tup [1, 2, 3, 4]) (.var 0))
  (.cons (.ite (.bop false (.cons (.nt (.call fe_is_size (.cons (.var 1) (.cons (.glb "MAX_SIZE" (.int 30)) (.cons (.glb "MAX_SIZE" (.int 30)) .nil))))) (.cons (.nt (.call fe_is_size (.cons (.var 2) (.cons (.idx (.var 1) (.cst (.int 0))) (.cons (.idx (.var 1) (.cst (.int 1))) .nil))))) .nil))) (.cons (.ret (.cst (.bool false)))
  .nil) .nil)
  (.cons (.ret (.bop true (.cons (.call fe_is_int (.cons (.var 3) (.cons (.cst (.int 0)) (.cons (.glb "MAX_GAP" (.int 5)) .nil)))) (.cons (.call fe_are_sides (.cons (.var 4) .nil)) .nil))))
  .nil))))
noncomputable def fe_is_setting : FE := ⟨"is_setting", ["candidate"], runDef 5 b_is_setting⟩
theorem mm_is_setting (us : List U) : fe_is_setting.m us = outR (evalSs b_is_setting (us.map some ++ List.replicate (5 - us.length) none) []) := rfl
def N_has_anchor : List Str := ["setting", "candidate", "left", "top", "width", "height", "wide", "high"]
noncomputable def b_has_anchor : Ss := (.cons (.ite (.bop false (.cons (.nt (.isi (.var 1) .tuple)) (.cons (.cmp .ne (.blt .len (.cons (.var 1) .nil)) (.cst (.int 4))) .nil))) (.cons (.ret (.cst (.bool false)))
  .nil) .nil)
  (.cons (.asg (.tup [2, 3, 4, 5]) (.var 1))
  (.cons (.asg (.tup [6, 7]) (.idx (.var 0) (.cst (.int 0))))
  (.cons (.ite (.bop false (.cons (.nt (.call fe_is_int (.cons (.var 2) (.cons (.cst (.int 0)) (.cons (.var 6) .nil))))) (.cons (.nt (.call fe_is_int (.cons (.var 3) (.cons (.cst (.int 0)) (.cons (.var 7) .nil))))) .nil))) (.cons (.ret (.cst (.bool false)))
  .nil) .nil)
  (.cons (.ret (.bop true (.cons (.call fe_is_int (.cons (.var 4) (.cons (.cst (.int 1)) (.cons (.bin .sub (.var 6) (.var 2)) .nil)))) (.cons (.call fe_is_int (.cons (.var 5) (.cons (.cst (.int 1)) (.cons (.bin .sub (.var 7) (.var 3)) .nil)))) .nil))))
  .nil)))))
noncomputable def fe_has_anchor : FE := ⟨"has_anchor", ["setting", "candidate"], runDef 8 b_has_anchor⟩
theorem mm_has_anchor (us : List U) : fe_has_anchor.m us = outR (evalSs b_has_anchor (us.map some ++ List.replicate (8 - us.length) none) []) := rfl
def N_check_setting : List Str := ["value"]
noncomputable def b_check_setting : Ss := (.cons (.ite (.nt (.call fe_is_setting (.cons (.var 0) .nil))) (.cons (.rais "InvalidSetting")
  .nil) .nil)
  .nil)
noncomputable def fe_check_setting : FE := ⟨"check_setting", ["value"], runDef 1 b_check_setting⟩
theorem mm_check_setting (us : List U) : fe_check_setting.m us = outR (evalSs b_check_setting (us.map some ++ List.replicate (1 - us.length) none) []) := rfl
def N_check_anchor : List Str := ["setting", "value"]
noncomputable def b_check_anchor : Ss := (.cons (.ite (.nt (.call fe_has_anchor (.cons (.var 0) (.cons (.var 1) .nil)))) (.cons (.rais "InvalidAnchor")
  .nil) .nil)
  .nil)
noncomputable def fe_check_anchor : FE := ⟨"check_anchor", ["setting", "value"], runDef 2 b_check_anchor⟩
theorem mm_check_anchor (us : List U) : fe_check_anchor.m us = outR (evalSs b_check_anchor (us.map some ++ List.replicate (2 - us.length) none) []) := rfl
def N_is_anchor : List Str := ["setting", "candidate"]
noncomputable def b_is_anchor : Ss := (.cons (.expr (.call fe_check_setting (.cons (.var 0) .nil)))
  (.cons (.ret (.call fe_has_anchor (.cons (.var 0) (.cons (.var 1) .nil))))
  .nil))
noncomputable def fe_is_anchor : FE := ⟨"is_anchor", ["setting", "candidate"], runDef 2 b_is_anchor⟩
theorem mm_is_anchor (us : List U) : fe_is_anchor.m us = outR (evalSs b_is_anchor (us.map some ++ List.replicate (2 - us.length) none) []) := rfl
def N_has_room : List Str := ["setting", "anchor", "side", "screen", "box", "gap", "sides", "left", "top", "width", "height"]
noncomputable def b_has_room : Ss := (.cons (.asg (.tup [3, 4, 5, 6]) (.var 0))
  (.cons (.asg (.tup [7, 8, 9, 10]) (.var 1))
  (.cons (.ite (.cmp .eq (.var 2) (.glb "TOP" (.str "top"))) (.cons (.ret (.cmp .ge (.var 8) (.bin .add (.idx (.var 4) (.cst (.int 1))) (.var 5))))
  .nil) .nil)
  (.cons (.ite (.cmp .eq (.var 2) (.glb "BOTTOM" (.str "bottom"))) (.cons (.ret (.cmp .le (.bin .add (.bin .add (.bin .add (.var 8) (.var 10)) (.var 5)) (.idx (.var 4) (.cst (.int 1)))) (.idx (.var 3) (.cst (.int 1)))))
  .nil) .nil)
  (.cons (.ite (.cmp .eq (.var 2) (.glb "LEFT" (.str "left"))) (.cons (.ret (.cmp .ge (.var 7) (.bin .add (.idx (.var 4) (.cst (.int 0))) (.var 5))))
  .nil) .nil)
  (.cons (.ret (.cmp .le (.bin .add (.bin .add (.bin .add (.var 7) (.var 9)) (.var 5)) (.idx (.var 4) (.cst (.int 0)))) (.idx (.var 3) (.cst (.int 0)))))
  .nil))))))
noncomputable def fe_has_room : FE := ⟨"has_room", ["setting", "anchor", "side"], runDef 11 b_has_room⟩
theorem mm_has_room (us : List U) : fe_has_room.m us = outR (evalSs b_has_room (us.map some ++ List.replicate (11 - us.length) none) []) := rfl
def N_do_fit : List Str := ["setting", "anchor", "side"]
noncomputable def b_do_fit : Ss := (.cons (.expr (.call fe_check_setting (.cons (.var 0) .nil)))
  (.cons (.expr (.call fe_check_anchor (.cons (.var 0) (.cons (.var 1) .nil))))
  (.cons (.ite (.nt (.call fe_is_side (.cons (.var 2) .nil))) (.cons (.rais "InvalidSide")
  .nil) .nil)
  (.cons (.ret (.call fe_has_room (.cons (.var 0) (.cons (.var 1) (.cons (.var 2) .nil)))))
  .nil))))
noncomputable def fe_do_fit : FE := ⟨"do_fit", ["setting", "anchor", "side"], runDef 3 b_do_fit⟩
theorem mm_do_fit (us : List U) : fe_do_fit.m us = outR (evalSs b_do_fit (us.map some ++ List.replicate (3 - us.length) none) []) := rfl
def N_find_fitting : List Str := ["setting", "anchor", "side"]
noncomputable def c_find_fitting_1 : P := (.lc [("side", 2)] (.name 2) (.ex (.idx (.var 0) (.cst (.int 3)))) (.yes (.call fe_has_room (.cons (.var 0) (.cons (.var 1) (.cons (.var 2) .nil))))) (.var 2))
noncomputable def b_find_fitting : Ss := (.cons (.ret c_find_fitting_1)
  .nil)
noncomputable def fe_find_fitting : FE := ⟨"find_fitting", ["setting", "anchor"], runDef 3 b_find_fitting⟩
theorem mm_find_fitting (us : List U) : fe_find_fitting.m us = outR (evalSs b_find_fitting (us.map some ++ List.replicate (3 - us.length) none) []) := rfl
def N_find_side : List Str := ["setting", "anchor"]
noncomputable def b_find_side : Ss := (.cons (.ret (.idx (.bin .add (.call fe_find_fitting (.cons (.var 0) (.cons (.var 1) .nil))) (.lst (.cons (.glb "OVER" (.str "over")) .nil))) (.cst (.int 0))))
  .nil)
noncomputable def fe_find_side : FE := ⟨"find_side", ["setting", "anchor"], runDef 2 b_find_side⟩
theorem mm_find_side (us : List U) : fe_find_side.m us = outR (evalSs b_find_side (us.map some ++ List.replicate (2 - us.length) none) []) := rfl
def N_fitting : List Str := ["setting", "anchor"]
noncomputable def b_fitting : Ss := (.cons (.expr (.call fe_check_setting (.cons (.var 0) .nil)))
  (.cons (.expr (.call fe_check_anchor (.cons (.var 0) (.cons (.var 1) .nil))))
  (.cons (.ret (.call fe_find_fitting (.cons (.var 0) (.cons (.var 1) .nil))))
  .nil)))
noncomputable def fe_fitting : FE := ⟨"fitting", ["setting", "anchor"], runDef 2 b_fitting⟩
theorem mm_fitting (us : List U) : fe_fitting.m us = outR (evalSs b_fitting (us.map some ++ List.replicate (2 - us.length) none) []) := rfl
def N_side_of : List Str := ["setting", "anchor"]
noncomputable def b_side_of : Ss := (.cons (.expr (.call fe_check_setting (.cons (.var 0) .nil)))
  (.cons (.expr (.call fe_check_anchor (.cons (.var 0) (.cons (.var 1) .nil))))
  (.cons (.ret (.call fe_find_side (.cons (.var 0) (.cons (.var 1) .nil))))
  .nil)))
noncomputable def fe_side_of : FE := ⟨"side_of", ["setting", "anchor"], runDef 2 b_side_of⟩
theorem mm_side_of (us : List U) : fe_side_of.m us = outR (evalSs b_side_of (us.map some ++ List.replicate (2 - us.length) none) []) := rfl
def N_check_size : List Str := ["setting", "size"]
noncomputable def b_check_size : Ss := (.cons (.expr (.call fe_check_setting (.cons (.var 0) .nil)))
  (.cons (.ite (.nt (.call fe_is_size (.cons (.var 1) (.cons (.idx (.idx (.var 0) (.cst (.int 0))) (.cst (.int 0))) (.cons (.idx (.idx (.var 0) (.cst (.int 0))) (.cst (.int 1))) .nil))))) (.cons (.rais "InvalidSize")
  .nil) .nil)
  .nil))
noncomputable def fe_check_size : FE := ⟨"check_size", ["setting", "size"], runDef 2 b_check_size⟩
theorem mm_check_size (us : List U) : fe_check_size.m us = outR (evalSs b_check_size (us.map some ++ List.replicate (2 - us.length) none) []) := rfl
def N_all_anchors : List Str := ["setting", "size", "wide", "high", "lefts", "tops", "left", "top"]
noncomputable def c_all_anchors_1 : P := (.lc2 [("left", 6), ("top", 7)] (.name 6) (.ex (.var 4)) (.name 7) (.ex (.var 5)) .no (.tup (.cons (.var 6) (.cons (.var 7) (.cons (.idx (.var 1) (.cst (.int 0))) (.cons (.idx (.var 1) (.cst (.int 1))) .nil))))))
noncomputable def b_all_anchors : Ss := (.cons (.asg (.tup [2, 3]) (.idx (.var 0) (.cst (.int 0))))
  (.cons (.asg (.tup [4, 5]) (.tup (.cons (.lrg1 (.bin .add (.bin .sub (.var 2) (.idx (.var 1) (.cst (.int 0)))) (.cst (.int 1)))) (.cons (.lrg1 (.bin .add (.bin .sub (.var 3) (.idx (.var 1) (.cst (.int 1)))) (.cst (.int 1)))) .nil))))
  (.cons (.ret c_all_anchors_1)
  .nil)))
noncomputable def fe_all_anchors : FE := ⟨"all_anchors", ["setting", "size"], runDef 8 b_all_anchors⟩
theorem mm_all_anchors (us : List U) : fe_all_anchors.m us = outR (evalSs b_all_anchors (us.map some ++ List.replicate (8 - us.length) none) []) := rfl
def N_count_places : List Str := ["setting", "size"]
noncomputable def b_count_places : Ss := (.cons (.expr (.call fe_check_size (.cons (.var 0) (.cons (.var 1) .nil))))
  (.cons (.ret (.blt .len (.cons (.call fe_all_anchors (.cons (.var 0) (.cons (.var 1) .nil))) .nil)))
  .nil))
noncomputable def fe_count_places : FE := ⟨"count_places", ["setting", "size"], runDef 2 b_count_places⟩
theorem mm_count_places (us : List U) : fe_count_places.m us = outR (evalSs b_count_places (us.map some ++ List.replicate (2 - us.length) none) []) := rfl
def N_find_sides : List Str := ["setting", "size", "anchor"]
noncomputable def c_find_sides_1 : P := (.lc [("anchor", 2)] (.name 2) (.ex (.call fe_all_anchors (.cons (.var 0) (.cons (.var 1) .nil)))) .no (.call fe_find_side (.cons (.var 0) (.cons (.var 2) .nil))))
noncomputable def b_find_sides : Ss := (.cons (.ret c_find_sides_1)
  .nil)
noncomputable def fe_find_sides : FE := ⟨"find_sides", ["setting", "size"], runDef 3 b_find_sides⟩
theorem mm_find_sides (us : List U) : fe_find_sides.m us = outR (evalSs b_find_sides (us.map some ++ List.replicate (3 - us.length) none) []) := rfl
def N_count_side : List Str := ["setting", "size", "side"]
noncomputable def b_count_side : Ss := (.cons (.expr (.call fe_check_size (.cons (.var 0) (.cons (.var 1) .nil))))
  (.cons (.ite (.bop true (.cons (.cmp .ne (.var 2) (.glb "OVER" (.str "over"))) (.cons (.nt (.call fe_is_side (.cons (.var 2) .nil))) .nil))) (.cons (.rais "InvalidSide")
  .nil) .nil)
  (.cons (.ret (.mth .count (.call fe_find_sides (.cons (.var 0) (.cons (.var 1) .nil))) (.cons (.var 2) .nil)))
  .nil)))
noncomputable def fe_count_side : FE := ⟨"count_side", ["setting", "size", "side"], runDef 3 b_count_side⟩
theorem mm_count_side (us : List U) : fe_count_side.m us = outR (evalSs b_count_side (us.map some ++ List.replicate (3 - us.length) none) []) := rfl
def N_find_used : List Str := ["setting", "size", "known", "side"]
noncomputable def c_find_used_1 : P := (.lc [("side", 3)] (.name 3) (.ex (.bin .add (.idx (.var 0) (.cst (.int 3))) (.tup (.cons (.glb "OVER" (.str "over")) .nil)))) (.yes (.cmp .isin (.var 3) (.var 2))) (.var 3))
noncomputable def b_find_used : Ss := (.cons (.asg (.name 2) (.call fe_find_sides (.cons (.var 0) (.cons (.var 1) .nil))))
  (.cons (.ret c_find_used_1)
  .nil))
noncomputable def fe_find_used : FE := ⟨"find_used", ["setting", "size"], runDef 4 b_find_used⟩
theorem mm_find_used (us : List U) : fe_find_used.m us = outR (evalSs b_find_used (us.map some ++ List.replicate (4 - us.length) none) []) := rfl
def N_used_sides : List Str := ["setting", "size"]
noncomputable def b_used_sides : Ss := (.cons (.expr (.call fe_check_size (.cons (.var 0) (.cons (.var 1) .nil))))
  (.cons (.ret (.call fe_find_used (.cons (.var 0) (.cons (.var 1) .nil))))
  .nil))
noncomputable def fe_used_sides : FE := ⟨"used_sides", ["setting", "size"], runDef 2 b_used_sides⟩
theorem mm_used_sides (us : List U) : fe_used_sides.m us = outR (evalSs b_used_sides (us.map some ++ List.replicate (2 - us.length) none) []) := rfl
def N_is_always_beside : List Str := ["setting", "size"]
noncomputable def b_is_always_beside : Ss := (.cons (.expr (.call fe_check_size (.cons (.var 0) (.cons (.var 1) .nil))))
  (.cons (.ret (.cmp .notin (.glb "OVER" (.str "over")) (.call fe_find_sides (.cons (.var 0) (.cons (.var 1) .nil)))))
  .nil))
noncomputable def fe_is_always_beside : FE := ⟨"is_always_beside", ["setting", "size"], runDef 2 b_is_always_beside⟩
theorem mm_is_always_beside (us : List U) : fe_is_always_beside.m us = outR (evalSs b_is_always_beside (us.map some ++ List.replicate (2 - us.length) none) []) := rfl
def N_first_over : List Str := ["setting", "size", "found", "anchor"]
noncomputable def c_first_over_1 : P := (.lc [("anchor", 3)] (.name 3) (.ex (.call fe_all_anchors (.cons (.var 0) (.cons (.var 1) .nil)))) (.yes (.cmp .eq (.call fe_find_side (.cons (.var 0) (.cons (.var 3) .nil))) (.glb "OVER" (.str "over")))) (.var 3))
noncomputable def b_first_over : Ss := (.cons (.expr (.call fe_check_size (.cons (.var 0) (.cons (.var 1) .nil))))
  (.cons (.asg (.name 2) c_first_over_1)
  (.cons (.ret (.ife (.cmp .ne (.var 2) (.lst .nil)) (.idx (.var 2) (.cst (.int 0))) (.cst .none)))
  .nil)))
noncomputable def fe_first_over : FE := ⟨"first_over", ["setting", "size"], runDef 4 b_first_over⟩
theorem mm_first_over (us : List U) : fe_first_over.m us = outR (evalSs b_first_over (us.map some ++ List.replicate (4 - us.length) none) []) := rfl
def N_centred : List Str := ["start", "size", "box"]
noncomputable def b_centred : Ss := (.cons (.ret (.bin .add (.var 0) (.bin .fdiv (.bin .sub (.var 1) (.var 2)) (.cst (.int 2)))))
  .nil)
noncomputable def fe_centred : FE := ⟨"centred", ["start", "size", "box"], runDef 3 b_centred⟩
theorem mm_centred (us : List U) : fe_centred.m us = outR (evalSs b_centred (us.map some ++ List.replicate (3 - us.length) none) []) := rfl
def N_within : List Str := ["start", "box", "screen"]
noncomputable def b_within : Ss := (.cons (.ret (.blt .max2 (.cons (.cst (.int 0)) (.cons (.blt .min2 (.cons (.var 0) (.cons (.bin .sub (.var 2) (.var 1)) .nil))) .nil))))
  .nil)
noncomputable def fe_within : FE := ⟨"within", ["start", "box", "screen"], runDef 3 b_within⟩
theorem mm_within (us : List U) : fe_within.m us = outR (evalSs b_within (us.map some ++ List.replicate (3 - us.length) none) []) := rfl
def N_find_raw : List Str := ["setting", "anchor", "screen", "box", "gap", "sides", "left", "top", "width", "height", "x", "y", "side"]
noncomputable def b_find_raw : Ss := (.cons (.asg (.tup [2, 3, 4, 5]) (.var 0))
  (.cons (.asg (.tup [6, 7, 8, 9]) (.var 1))
  (.cons (.par3 10 11 12 (.call fe_centred (.cons (.var 6) (.cons (.var 8) (.cons (.idx (.var 3) (.cst (.int 0))) .nil)))) (.call fe_centred (.cons (.var 7) (.cons (.var 9) (.cons (.idx (.var 3) (.cst (.int 1))) .nil)))) (.call fe_find_side (.cons (.var 0) (.cons (.var 1) .nil))))
  (.cons (.ite (.cmp .eq (.var 12) (.glb "TOP" (.str "top"))) (.cons (.ret (.tup (.cons (.var 10) (.cons (.bin .sub (.bin .sub (.var 7) (.var 4)) (.idx (.var 3) (.cst (.int 1)))) .nil))))
  .nil) .nil)
  (.cons (.ite (.cmp .eq (.var 12) (.glb "BOTTOM" (.str "bottom"))) (.cons (.ret (.tup (.cons (.var 10) (.cons (.bin .add (.bin .add (.var 7) (.var 9)) (.var 4)) .nil))))
  .nil) .nil)
  (.cons (.ite (.cmp .eq (.var 12) (.glb "LEFT" (.str "left"))) (.cons (.ret (.tup (.cons (.bin .sub (.bin .sub (.var 6) (.var 4)) (.idx (.var 3) (.cst (.int 0)))) (.cons (.var 11) .nil))))
  .nil) .nil)
  (.cons (.ite (.cmp .eq (.var 12) (.glb "RIGHT" (.str "right"))) (.cons (.ret (.tup (.cons (.bin .add (.bin .add (.var 6) (.var 8)) (.var 4)) (.cons (.var 11) .nil))))
  .nil) .nil)
  (.cons (.ret (.tup (.cons (.var 10) (.cons (.var 11) .nil))))
  .nil))))))))
noncomputable def fe_find_raw : FE := ⟨"find_raw", ["setting", "anchor"], runDef 13 b_find_raw⟩
theorem mm_find_raw (us : List U) : fe_find_raw.m us = outR (evalSs b_find_raw (us.map some ++ List.replicate (13 - us.length) none) []) := rfl
def N_find_place : List Str := ["setting", "anchor", "screen", "box", "x", "y"]
noncomputable def b_find_place : Ss := (.cons (.par 2 3 (.idx (.var 0) (.cst (.int 0))) (.idx (.var 0) (.cst (.int 1))))
  (.cons (.asg (.tup [4, 5]) (.call fe_find_raw (.cons (.var 0) (.cons (.var 1) .nil))))
  (.cons (.ret (.tup (.cons (.call fe_within (.cons (.var 4) (.cons (.idx (.var 3) (.cst (.int 0))) (.cons (.idx (.var 2) (.cst (.int 0))) .nil)))) (.cons (.call fe_within (.cons (.var 5) (.cons (.idx (.var 3) (.cst (.int 1))) (.cons (.idx (.var 2) (.cst (.int 1))) .nil)))) (.cons (.idx (.var 3) (.cst (.int 0))) (.cons (.idx (.var 3) (.cst (.int 1))) .nil))))))
  .nil)))
noncomputable def fe_find_place : FE := ⟨"find_place", ["setting", "anchor"], runDef 6 b_find_place⟩
theorem mm_find_place (us : List U) : fe_find_place.m us = outR (evalSs b_find_place (us.map some ++ List.replicate (6 - us.length) none) []) := rfl
def N_check_both : List Str := ["setting", "anchor"]
noncomputable def b_check_both : Ss := (.cons (.expr (.call fe_check_setting (.cons (.var 0) .nil)))
  (.cons (.expr (.call fe_check_anchor (.cons (.var 0) (.cons (.var 1) .nil))))
  .nil))
noncomputable def fe_check_both : FE := ⟨"check_both", ["setting", "anchor"], runDef 2 b_check_both⟩
theorem mm_check_both (us : List U) : fe_check_both.m us = outR (evalSs b_check_both (us.map some ++ List.replicate (2 - us.length) none) []) := rfl
def N_place : List Str := ["setting", "anchor"]
noncomputable def b_place : Ss := (.cons (.expr (.call fe_check_both (.cons (.var 0) (.cons (.var 1) .nil))))
  (.cons (.ret (.call fe_find_place (.cons (.var 0) (.cons (.var 1) .nil))))
  .nil))
noncomputable def fe_place : FE := ⟨"place", ["setting", "anchor"], runDef 2 b_place⟩
theorem mm_place (us : List U) : fe_place.m us = outR (evalSs b_place (us.map some ++ List.replicate (2 - us.length) none) []) := rfl
def N_common : List Str := ["start", "size", "other", "length"]
noncomputable def b_common : Ss := (.cons (.ret (.blt .max2 (.cons (.cst (.int 0)) (.cons (.bin .sub (.blt .min2 (.cons (.bin .add (.var 0) (.var 1)) (.cons (.bin .add (.var 2) (.var 3)) .nil))) (.blt .max2 (.cons (.var 0) (.cons (.var 2) .nil)))) .nil))))
  .nil)
noncomputable def fe_common : FE := ⟨"common", ["start", "size", "other", "length"], runDef 4 b_common⟩
theorem mm_common (us : List U) : fe_common.m us = outR (evalSs b_common (us.map some ++ List.replicate (4 - us.length) none) []) := rfl
def N_overlap : List Str := ["one", "other"]
noncomputable def b_overlap : Ss := (.cons (.ret (.bin .mul (.call fe_common (.cons (.idx (.var 0) (.cst (.int 0))) (.cons (.idx (.var 0) (.cst (.int 2))) (.cons (.idx (.var 1) (.cst (.int 0))) (.cons (.idx (.var 1) (.cst (.int 2))) .nil))))) (.call fe_common (.cons (.idx (.var 0) (.cst (.int 1))) (.cons (.idx (.var 0) (.cst (.int 3))) (.cons (.idx (.var 1) (.cst (.int 1))) (.cons (.idx (.var 1) (.cst (.int 3))) .nil)))))))
  .nil)
noncomputable def fe_overlap : FE := ⟨"overlap", ["one", "other"], runDef 2 b_overlap⟩
theorem mm_overlap (us : List U) : fe_overlap.m us = outR (evalSs b_overlap (us.map some ++ List.replicate (2 - us.length) none) []) := rfl
def N_covers : List Str := ["setting", "anchor"]
noncomputable def b_covers : Ss := (.cons (.expr (.call fe_check_both (.cons (.var 0) (.cons (.var 1) .nil))))
  (.cons (.ret (.cmp .gt (.call fe_overlap (.cons (.call fe_find_place (.cons (.var 0) (.cons (.var 1) .nil))) (.cons (.var 1) .nil))) (.cst (.int 0))))
  .nil))
noncomputable def fe_covers : FE := ⟨"covers", ["setting", "anchor"], runDef 2 b_covers⟩
theorem mm_covers (us : List U) : fe_covers.m us = outR (evalSs b_covers (us.map some ++ List.replicate (2 - us.length) none) []) := rfl
def N_is_moved : List Str := ["setting", "anchor"]
noncomputable def b_is_moved : Ss := (.cons (.expr (.call fe_check_both (.cons (.var 0) (.cons (.var 1) .nil))))
  (.cons (.ret (.cmp .ne (.slc (.call fe_find_place (.cons (.var 0) (.cons (.var 1) .nil))) .no (.yes (.cst (.int 2)))) (.call fe_find_raw (.cons (.var 0) (.cons (.var 1) .nil)))))
  .nil))
noncomputable def fe_is_moved : FE := ⟨"is_moved", ["setting", "anchor"], runDef 2 b_is_moved⟩
theorem mm_is_moved (us : List U) : fe_is_moved.m us = outR (evalSs b_is_moved (us.map some ++ List.replicate (2 - us.length) none) []) := rfl
def N_free_fields : List Str := ["setting", "anchor", "covered", "screen", "box"]
noncomputable def b_free_fields : Ss := (.cons (.expr (.call fe_check_both (.cons (.var 0) (.cons (.var 1) .nil))))
  (.cons (.par 3 4 (.idx (.var 0) (.cst (.int 0))) (.call fe_find_place (.cons (.var 0) (.cons (.var 1) .nil))))
  (.cons (.asg (.name 2) (.bin .sub (.bin .add (.bin .mul (.idx (.var 4) (.cst (.int 2))) (.idx (.var 4) (.cst (.int 3)))) (.bin .mul (.idx (.var 1) (.cst (.int 2))) (.idx (.var 1) (.cst (.int 3))))) (.call fe_overlap (.cons (.var 4) (.cons (.var 1) .nil)))))
  (.cons (.ret (.bin .sub (.bin .mul (.idx (.var 3) (.cst (.int 0))) (.idx (.var 3) (.cst (.int 1)))) (.var 2)))
  .nil))))
noncomputable def fe_free_fields : FE := ⟨"free_fields", ["setting", "anchor"], runDef 5 b_free_fields⟩
theorem mm_free_fields (us : List U) : fe_free_fields.m us = outR (evalSs b_free_fields (us.map some ++ List.replicate (5 - us.length) none) []) := rfl
def N_check_start : List Str := ["value", "most"]
noncomputable def b_check_start : Ss := (.cons (.ite (.nt (.call fe_is_int (.cons (.var 0) (.cons (.cst (.int 0)) (.cons (.var 1) .nil))))) (.cons (.rais "InvalidNumber")
  .nil) .nil)
  .nil)
noncomputable def fe_check_start : FE := ⟨"check_start", ["value", "most"], runDef 2 b_check_start⟩
theorem mm_check_start (us : List U) : fe_check_start.m us = outR (evalSs b_check_start (us.map some ++ List.replicate (2 - us.length) none) []) := rfl
def N_differ : List Str := ["setting", "one", "other"]
noncomputable def b_differ : Ss := (.cons (.ret (.cmp .ne (.call fe_find_side (.cons (.var 0) (.cons (.var 1) .nil))) (.call fe_find_side (.cons (.var 0) (.cons (.var 2) .nil)))))
  .nil)
noncomputable def fe_differ : FE := ⟨"differ", ["setting", "one", "other"], runDef 3 b_differ⟩
theorem mm_differ (us : List U) : fe_differ.m us = outR (evalSs b_differ (us.map some ++ List.replicate (3 - us.length) none) []) := rfl
def N_turning_tops : List Str := ["setting", "size", "left", "tops", "width", "height", "top"]
noncomputable def c_turning_tops_1 : P := (.lc [("top", 6)] (.name 6) (.ex (.var 3)) (.yes (.call fe_differ (.cons (.var 0) (.cons (.tup (.cons (.var 2) (.cons (.var 6) (.cons (.var 4) (.cons (.var 5) .nil))))) (.cons (.tup (.cons (.var 2) (.cons (.bin .add (.var 6) (.cst (.int 1))) (.cons (.var 4) (.cons (.var 5) .nil))))) .nil))))) (.var 6))
noncomputable def b_turning_tops : Ss := (.cons (.expr (.call fe_check_size (.cons (.var 0) (.cons (.var 1) .nil))))
  (.cons (.asg (.tup [4, 5]) (.var 1))
  (.cons (.expr (.call fe_check_start (.cons (.var 2) (.cons (.bin .sub (.idx (.idx (.var 0) (.cst (.int 0))) (.cst (.int 0))) (.var 4)) .nil))))
  (.cons (.asg (.name 3) (.lrg1 (.bin .sub (.idx (.idx (.var 0) (.cst (.int 0))) (.cst (.int 1))) (.var 5))))
  (.cons (.ret c_turning_tops_1)
  .nil)))))
noncomputable def fe_turning_tops : FE := ⟨"turning_tops", ["setting", "size", "left"], runDef 7 b_turning_tops⟩
theorem mm_turning_tops (us : List U) : fe_turning_tops.m us = outR (evalSs b_turning_tops (us.map some ++ List.replicate (7 - us.length) none) []) := rfl
def N_turning_lefts : List Str := ["setting", "size", "top", "lefts", "width", "height", "left"]
noncomputable def c_turning_lefts_1 : P := (.lc [("left", 6)] (.name 6) (.ex (.var 3)) (.yes (.call fe_differ (.cons (.var 0) (.cons (.tup (.cons (.var 6) (.cons (.var 2) (.cons (.var 4) (.cons (.var 5) .nil))))) (.cons (.tup (.cons (.bin .add (.var 6) (.cst (.int 1))) (.cons (.var 2) (.cons (.var 4) (.cons (.var 5) .nil))))) .nil))))) (.var 6))
noncomputable def b_turning_lefts : Ss := (.cons (.expr (.call fe_check_size (.cons (.var 0) (.cons (.var 1) .nil))))
  (.cons (.asg (.tup [4, 5]) (.var 1))
  (.cons (.expr (.call fe_check_start (.cons (.var 2) (.cons (.bin .sub (.idx (.idx (.var 0) (.cst (.int 0))) (.cst (.int 1))) (.var 5)) .nil))))
  (.cons (.asg (.name 3) (.lrg1 (.bin .sub (.idx (.idx (.var 0) (.cst (.int 0))) (.cst (.int 0))) (.var 4))))
  (.cons (.ret c_turning_lefts_1)
  .nil)))))
noncomputable def fe_turning_lefts : FE := ⟨"turning_lefts", ["setting", "size", "top"], runDef 7 b_turning_lefts⟩
theorem mm_turning_lefts (us : List U) : fe_turning_lefts.m us = outR (evalSs b_turning_lefts (us.map some ++ List.replicate (7 - us.length) none) []) := rfl
def N_find_way : List Str := ["setting", "anchor", "other", "one", "two"]
noncomputable def b_find_way : Ss := (.cons (.par 3 4 (.call fe_find_place (.cons (.var 0) (.cons (.var 1) .nil))) (.call fe_find_place (.cons (.var 0) (.cons (.var 2) .nil))))
  (.cons (.ret (.bin .add (.blt .abs (.cons (.bin .sub (.idx (.var 3) (.cst (.int 0))) (.idx (.var 4) (.cst (.int 0)))) .nil)) (.blt .abs (.cons (.bin .sub (.idx (.var 3) (.cst (.int 1))) (.idx (.var 4) (.cst (.int 1)))) .nil))))
  .nil))
noncomputable def fe_find_way : FE := ⟨"find_way", ["setting", "anchor", "other"], runDef 5 b_find_way⟩
theorem mm_find_way (us : List U) : fe_find_way.m us = outR (evalSs b_find_way (us.map some ++ List.replicate (5 - us.length) none) []) := rfl
def N_way_between : List Str := ["setting", "anchor", "other"]
noncomputable def b_way_between : Ss := (.cons (.expr (.call fe_check_setting (.cons (.var 0) .nil)))
  (.cons (.expr (.call fe_check_anchor (.cons (.var 0) (.cons (.var 1) .nil))))
  (.cons (.expr (.call fe_check_anchor (.cons (.var 0) (.cons (.var 2) .nil))))
  (.cons (.ret (.call fe_find_way (.cons (.var 0) (.cons (.var 1) (.cons (.var 2) .nil)))))
  .nil))))
noncomputable def fe_way_between : FE := ⟨"way_between", ["setting", "anchor", "other"], runDef 3 b_way_between⟩
theorem mm_way_between (us : List U) : fe_way_between.m us = outR (evalSs b_way_between (us.map some ++ List.replicate (3 - us.length) none) []) := rfl
def N_greatest_jump : List Str := ["setting", "size", "found", "anchor", "steps", "left", "top", "width", "height", "other"]
noncomputable def c_greatest_jump_1 : P := (.lc [("other", 9)] (.name 9) (.ex (.var 4)) (.yes (.call fe_has_anchor (.cons (.var 0) (.cons (.var 9) .nil)))) (.call fe_find_way (.cons (.var 0) (.cons (.var 3) (.cons (.var 9) .nil)))))
noncomputable def l_greatest_jump_2 : Sx := (.forr (.name 3) (.ex (.call fe_all_anchors (.cons (.var 0) (.cons (.var 1) .nil)))) (.cons (.asg (.tup [5, 6, 7, 8]) (.var 3))
  (.cons (.asg (.name 4) (.lst (.cons (.tup (.cons (.bin .add (.var 5) (.cst (.int 1))) (.cons (.var 6) (.cons (.var 7) (.cons (.var 8) .nil))))) (.cons (.tup (.cons (.var 5) (.cons (.bin .add (.var 6) (.cst (.int 1))) (.cons (.var 7) (.cons (.var 8) .nil))))) .nil))))
  (.cons (.expr (.ext 2 c_greatest_jump_1))
  .nil))))
noncomputable def b_greatest_jump : Ss := (.cons (.expr (.call fe_check_size (.cons (.var 0) (.cons (.var 1) .nil))))
  (.cons (.asg (.name 2) (.newl (.cons (.cst (.int 0)) .nil)))
  (.cons l_greatest_jump_2
  (.cons (.ret (.blt .maxL (.cons (.var 2) .nil)))
  .nil))))
noncomputable def fe_greatest_jump : FE := ⟨"greatest_jump", ["setting", "size"], runDef 10 b_greatest_jump⟩
theorem mm_greatest_jump (us : List U) : fe_greatest_jump.m us = outR (evalSs b_greatest_jump (us.map some ++ List.replicate (10 - us.length) none) []) := rfl
def N_set_sides : List Str := ["setting", "sides"]
noncomputable def b_set_sides : Ss := (.cons (.ret (.tup (.cons (.idx (.var 0) (.cst (.int 0))) (.cons (.idx (.var 0) (.cst (.int 1))) (.cons (.idx (.var 0) (.cst (.int 2))) (.cons (.var 1) .nil))))))
  .nil)
noncomputable def fe_set_sides : FE := ⟨"set_sides", ["setting", "sides"], runDef 2 b_set_sides⟩
theorem mm_set_sides (us : List U) : fe_set_sides.m us = outR (evalSs b_set_sides (us.map some ++ List.replicate (2 - us.length) none) []) := rfl
def N_check_sides : List Str := ["setting", "sides"]
noncomputable def b_check_sides : Ss := (.cons (.expr (.call fe_check_setting (.cons (.var 0) .nil)))
  (.cons (.ite (.nt (.call fe_are_sides (.cons (.var 1) .nil))) (.cons (.rais "InvalidSides")
  .nil) .nil)
  .nil))
noncomputable def fe_check_sides : FE := ⟨"check_sides", ["setting", "sides"], runDef 2 b_check_sides⟩
theorem mm_check_sides (us : List U) : fe_check_sides.m us = outR (evalSs b_check_sides (us.map some ++ List.replicate (2 - us.length) none) []) := rfl
def N_with_sides : List Str := ["setting", "sides"]
noncomputable def b_with_sides : Ss := (.cons (.expr (.call fe_check_sides (.cons (.var 0) (.cons (.var 1) .nil))))
  (.cons (.ret (.call fe_set_sides (.cons (.var 0) (.cons (.var 1) .nil))))
  .nil))
noncomputable def fe_with_sides : FE := ⟨"with_sides", ["setting", "sides"], runDef 2 b_with_sides⟩
theorem mm_with_sides (us : List U) : fe_with_sides.m us = outR (evalSs b_with_sides (us.map some ++ List.replicate (2 - us.length) none) []) := rfl
def N_find_parting : List Str := ["setting", "sides", "size", "other", "anchor"]
noncomputable def l_find_parting_1 : Sx := (.forr (.name 4) (.ex (.call fe_all_anchors (.cons (.var 0) (.cons (.var 2) .nil)))) (.cons (.ite (.cmp .ne (.call fe_find_side (.cons (.var 0) (.cons (.var 4) .nil))) (.call fe_find_side (.cons (.var 3) (.cons (.var 4) .nil)))) (.cons (.ret (.var 4))
  .nil) .nil)
  .nil))
noncomputable def b_find_parting : Ss := (.cons (.expr (.call fe_check_sides (.cons (.var 0) (.cons (.var 1) .nil))))
  (.cons (.expr (.call fe_check_size (.cons (.var 0) (.cons (.var 2) .nil))))
  (.cons (.asg (.name 3) (.call fe_set_sides (.cons (.var 0) (.cons (.var 1) .nil))))
  (.cons l_find_parting_1
  (.cons (.ret (.cst .none))
  .nil)))))
noncomputable def fe_find_parting : FE := ⟨"find_parting", ["setting", "sides", "size"], runDef 5 b_find_parting⟩
theorem mm_find_parting (us : List U) : fe_find_parting.m us = outR (evalSs b_find_parting (us.map some ++ List.replicate (5 - us.length) none) []) := rfl
def N_do_agree : List Str := ["setting", "sides", "size"]
noncomputable def b_do_agree : Ss := (.cons (.ret (.cmp .is (.call fe_find_parting (.cons (.var 0) (.cons (.var 1) (.cons (.var 2) .nil)))) (.cst .none)))
  .nil)
noncomputable def fe_do_agree : FE := ⟨"do_agree", ["setting", "sides", "size"], runDef 3 b_do_agree⟩
theorem mm_do_agree (us : List U) : fe_do_agree.m us = outR (evalSs b_do_agree (us.map some ++ List.replicate (3 - us.length) none) []) := rfl
def N_parting_anchor : List Str := ["setting", "sides", "size"]
noncomputable def b_parting_anchor : Ss := (.cons (.ret (.call fe_find_parting (.cons (.var 0) (.cons (.var 1) (.cons (.var 2) .nil)))))
  .nil)
noncomputable def fe_parting_anchor : FE := ⟨"parting_anchor", ["setting", "sides", "size"], runDef 3 b_parting_anchor⟩
theorem mm_parting_anchor (us : List U) : fe_parting_anchor.m us = outR (evalSs b_parting_anchor (us.map some ++ List.replicate (3 - us.length) none) []) := rfl
def N_needless_sides : List Str := ["setting", "size", "used", "side"]
noncomputable def c_needless_sides_1 : P := (.lc [("side", 3)] (.name 3) (.ex (.idx (.var 0) (.cst (.int 3)))) (.yes (.cmp .notin (.var 3) (.var 2))) (.var 3))
noncomputable def b_needless_sides : Ss := (.cons (.expr (.call fe_check_size (.cons (.var 0) (.cons (.var 1) .nil))))
  (.cons (.asg (.name 2) (.call fe_find_used (.cons (.var 0) (.cons (.var 1) .nil))))
  (.cons (.ret c_needless_sides_1)
  .nil)))
noncomputable def fe_needless_sides : FE := ⟨"needless_sides", ["setting", "size"], runDef 4 b_needless_sides⟩
theorem mm_needless_sides (us : List U) : fe_needless_sides.m us = outR (evalSs b_needless_sides (us.map some ++ List.replicate (4 - us.length) none) []) := rfl
def N_all_lists : List Str := ["many", "found", "turn", "begun", "side"]
noncomputable def c_all_lists_1 : P := (.lc2 [("begun", 3), ("side", 4)] (.name 3) (.ex (.var 1)) (.name 4) (.ex (.blt .sortS (.cons (.glb "SIDES" (.tuple [(.str "top"), (.str "bottom"), (.str "left"), (.str "right")])) .nil))) (.yes (.cmp .notin (.var 4) (.var 3))) (.bin .add (.var 3) (.tup (.cons (.var 4) .nil))))
noncomputable def l_all_lists_2 : Sx := (.forr (.name 2) (.rg1 (.var 0)) (.cons (.asg (.name 1) c_all_lists_1)
  .nil))
noncomputable def b_all_lists : Ss := (.cons (.asg (.name 1) (.lst (.cons (.tup .nil) .nil)))
  (.cons l_all_lists_2
  (.cons (.ret (.var 1))
  .nil)))
noncomputable def fe_all_lists : FE := ⟨"all_lists", ["many"], runDef 5 b_all_lists⟩
theorem mm_all_lists (us : List U) : fe_all_lists.m us = outR (evalSs b_all_lists (us.map some ++ List.replicate (5 - us.length) none) []) := rfl
def N_shortest_list : List Str := ["setting", "size", "known", "many", "sides"]
noncomputable def l_shortest_list_1 : Sx := (.forr (.name 4) (.ex (.call fe_all_lists (.cons (.var 3) .nil))) (.cons (.ite (.cmp .eq (.call fe_find_sides (.cons (.call fe_set_sides (.cons (.var 0) (.cons (.var 4) .nil))) (.cons (.var 1) .nil))) (.var 2)) (.cons (.ret (.var 4))
  .nil) .nil)
  .nil))
noncomputable def l_shortest_list_2 : Sx := (.forr (.name 3) (.rg2 (.cst (.int 1)) (.bin .add (.blt .len (.cons (.glb "SIDES" (.tuple [(.str "top"), (.str "bottom"), (.str "left"), (.str "right")])) .nil)) (.cst (.int 1)))) (.cons l_shortest_list_1
  .nil))
noncomputable def b_shortest_list : Ss := (.cons (.expr (.call fe_check_size (.cons (.var 0) (.cons (.var 1) .nil))))
  (.cons (.asg (.name 2) (.call fe_find_sides (.cons (.var 0) (.cons (.var 1) .nil))))
  (.cons l_shortest_list_2
  (.cons (.ret (.idx (.var 0) (.cst (.int 3))))
  .nil))))
noncomputable def fe_shortest_list : FE := ⟨"shortest_list", ["setting", "size"], runDef 5 b_shortest_list⟩
theorem mm_shortest_list (us : List U) : fe_shortest_list.m us = outR (evalSs b_shortest_list (us.map some ++ List.replicate (5 - us.length) none) []) := rfl
def N_find_tops : List Str := ["setting", "size", "top", "found", "wanted", "side"]
noncomputable def c_find_tops_1 : P := (.lc [("side", 5)] (.name 5) (.ex (.idx (.var 0) (.cst (.int 3)))) (.yes (.cmp .isin (.var 5) (.tup (.cons (.glb "TOP" (.str "top")) (.cons (.glb "BOTTOM" (.str "bottom")) .nil))))) (.var 5))
noncomputable def c_find_tops_2 : P := (.lc [("side", 5)] (.name 5) (.ex (.var 4)) .no (.call fe_has_room (.cons (.var 0) (.cons (.tup (.cons (.cst (.int 0)) (.cons (.var 2) (.cons (.idx (.var 1) (.cst (.int 0))) (.cons (.idx (.var 1) (.cst (.int 1))) .nil))))) (.cons (.var 5) .nil)))))
noncomputable def l_find_tops_3 : Sx := (.forr (.name 2) (.rg1 (.bin .add (.bin .sub (.idx (.idx (.var 0) (.cst (.int 0))) (.cst (.int 1))) (.idx (.var 1) (.cst (.int 1)))) (.cst (.int 1)))) (.cons (.ite (.nt (.blt .any (.cons c_find_tops_2 .nil))) (.cons (.expr (.app 3 (.var 2)))
  .nil) .nil)
  .nil))
noncomputable def b_find_tops : Ss := (.cons (.par 3 4 (.newl .nil) c_find_tops_1)
  (.cons l_find_tops_3
  (.cons (.ret (.frz 3))
  .nil)))
noncomputable def fe_find_tops : FE := ⟨"find_tops", ["setting", "size"], runDef 6 b_find_tops⟩
theorem mm_find_tops (us : List U) : fe_find_tops.m us = outR (evalSs b_find_tops (us.map some ++ List.replicate (6 - us.length) none) []) := rfl
def N_find_lefts : List Str := ["setting", "size", "left", "found", "wanted", "side"]
noncomputable def c_find_lefts_1 : P := (.lc [("side", 5)] (.name 5) (.ex (.idx (.var 0) (.cst (.int 3)))) (.yes (.cmp .isin (.var 5) (.tup (.cons (.glb "LEFT" (.str "left")) (.cons (.glb "RIGHT" (.str "right")) .nil))))) (.var 5))
noncomputable def c_find_lefts_2 : P := (.lc [("side", 5)] (.name 5) (.ex (.var 4)) .no (.call fe_has_room (.cons (.var 0) (.cons (.tup (.cons (.var 2) (.cons (.cst (.int 0)) (.cons (.idx (.var 1) (.cst (.int 0))) (.cons (.idx (.var 1) (.cst (.int 1))) .nil))))) (.cons (.var 5) .nil)))))
noncomputable def l_find_lefts_3 : Sx := (.forr (.name 2) (.rg1 (.bin .add (.bin .sub (.idx (.idx (.var 0) (.cst (.int 0))) (.cst (.int 0))) (.idx (.var 1) (.cst (.int 0)))) (.cst (.int 1)))) (.cons (.ite (.nt (.blt .any (.cons c_find_lefts_2 .nil))) (.cons (.expr (.app 3 (.var 2)))
  .nil) .nil)
  .nil))
noncomputable def b_find_lefts : Ss := (.cons (.par 3 4 (.newl .nil) c_find_lefts_1)
  (.cons l_find_lefts_3
  (.cons (.ret (.frz 3))
  .nil)))
noncomputable def fe_find_lefts : FE := ⟨"find_lefts", ["setting", "size"], runDef 6 b_find_lefts⟩
theorem mm_find_lefts (us : List U) : fe_find_lefts.m us = outR (evalSs b_find_lefts (us.map some ++ List.replicate (6 - us.length) none) []) := rfl
def N_tight_tops : List Str := ["setting", "size"]
noncomputable def b_tight_tops : Ss := (.cons (.expr (.call fe_check_size (.cons (.var 0) (.cons (.var 1) .nil))))
  (.cons (.ret (.call fe_find_tops (.cons (.var 0) (.cons (.var 1) .nil))))
  .nil))
noncomputable def fe_tight_tops : FE := ⟨"tight_tops", ["setting", "size"], runDef 2 b_tight_tops⟩
theorem mm_tight_tops (us : List U) : fe_tight_tops.m us = outR (evalSs b_tight_tops (us.map some ++ List.replicate (2 - us.length) none) []) := rfl
def N_tight_lefts : List Str := ["setting", "size"]
noncomputable def b_tight_lefts : Ss := (.cons (.expr (.call fe_check_size (.cons (.var 0) (.cons (.var 1) .nil))))
  (.cons (.ret (.call fe_find_lefts (.cons (.var 0) (.cons (.var 1) .nil))))
  .nil))
noncomputable def fe_tight_lefts : FE := ⟨"tight_lefts", ["setting", "size"], runDef 2 b_tight_lefts⟩
theorem mm_tight_lefts (us : List U) : fe_tight_lefts.m us = outR (evalSs b_tight_lefts (us.map some ++ List.replicate (2 - us.length) none) []) := rfl
def N_least_length : List Str := ["setting", "size", "which", "pair"]
noncomputable def b_least_length : Ss := (.cons (.ite (.bop false (.cons (.cmp .notin (.idx (.var 3) (.cst (.int 0))) (.idx (.var 0) (.cst (.int 3)))) (.cons (.cmp .notin (.idx (.var 3) (.cst (.int 1))) (.idx (.var 0) (.cst (.int 3)))) .nil))) (.cons (.ret (.cst .none))
  .nil) .nil)
  (.cons (.ret (.bin .sub (.bin .add (.idx (.var 1) (.var 2)) (.bin .mul (.cst (.int 2)) (.bin .add (.idx (.idx (.var 0) (.cst (.int 1))) (.var 2)) (.idx (.var 0) (.cst (.int 2)))))) (.cst (.int 1))))
  .nil))
noncomputable def fe_least_length : FE := ⟨"least_length", ["setting", "size", "which", "pair"], runDef 4 b_least_length⟩
theorem mm_least_length (us : List U) : fe_least_length.m us = outR (evalSs b_least_length (us.map some ++ List.replicate (4 - us.length) none) []) := rfl
def N_least_height : List Str := ["setting", "size", "least", "found"]
noncomputable def b_least_height : Ss := (.cons (.expr (.call fe_check_size (.cons (.var 0) (.cons (.var 1) .nil))))
  (.cons (.asg (.name 2) (.blt .max2 (.cons (.idx (.var 1) (.cst (.int 1))) (.cons (.idx (.idx (.var 0) (.cst (.int 1))) (.cst (.int 1))) .nil))))
  (.cons (.ite (.cmp .eq (.call fe_find_lefts (.cons (.var 0) (.cons (.var 1) .nil))) (.lst .nil)) (.cons (.ret (.var 2))
  .nil) .nil)
  (.cons (.asg (.name 3) (.call fe_least_length (.cons (.var 0) (.cons (.var 1) (.cons (.cst (.int 1)) (.cons (.tup (.cons (.glb "TOP" (.str "top")) (.cons (.glb "BOTTOM" (.str "bottom")) .nil))) .nil))))))
  (.cons (.ret (.ife (.cmp .isnot (.var 3) (.cst .none)) (.blt .max2 (.cons (.var 2) (.cons (.var 3) .nil))) (.cst .none)))
  .nil)))))
noncomputable def fe_least_height : FE := ⟨"least_height", ["setting", "size"], runDef 4 b_least_height⟩
theorem mm_least_height (us : List U) : fe_least_height.m us = outR (evalSs b_least_height (us.map some ++ List.replicate (4 - us.length) none) []) := rfl
def N_least_width : List Str := ["setting", "size", "least", "found"]
noncomputable def b_least_width : Ss := (.cons (.expr (.call fe_check_size (.cons (.var 0) (.cons (.var 1) .nil))))
  (.cons (.asg (.name 2) (.blt .max2 (.cons (.idx (.var 1) (.cst (.int 0))) (.cons (.idx (.idx (.var 0) (.cst (.int 1))) (.cst (.int 0))) .nil))))
  (.cons (.ite (.cmp .eq (.call fe_find_tops (.cons (.var 0) (.cons (.var 1) .nil))) (.lst .nil)) (.cons (.ret (.var 2))
  .nil) .nil)
  (.cons (.asg (.name 3) (.call fe_least_length (.cons (.var 0) (.cons (.var 1) (.cons (.cst (.int 0)) (.cons (.tup (.cons (.glb "LEFT" (.str "left")) (.cons (.glb "RIGHT" (.str "right")) .nil))) .nil))))))
  (.cons (.ret (.ife (.cmp .isnot (.var 3) (.cst .none)) (.blt .max2 (.cons (.var 2) (.cons (.var 3) .nil))) (.cst .none)))
  .nil)))))
noncomputable def fe_least_width : FE := ⟨"least_width", ["setting", "size"], runDef 4 b_least_width⟩
theorem mm_least_width (us : List U) : fe_least_width.m us = outR (evalSs b_least_width (us.map some ++ List.replicate (4 - us.length) none) []) := rfl
def N_greatest_gap : List Str := ["setting", "size", "some", "found", "screen", "box", "gap", "sides", "other", "one"]
noncomputable def c_greatest_gap_1 : P := (.lc [("other", 8)] (.name 8) (.rg1 (.bin .add (.glb "MAX_GAP" (.int 5)) (.cst (.int 1)))) .no (.tup (.cons (.var 4) (.cons (.var 5) (.cons (.var 8) (.cons (.var 7) .nil))))))
noncomputable def c_greatest_gap_2 : P := (.lc [("one", 9)] (.name 9) (.ex (.var 2)) (.yes (.bop false (.cons (.cmp .eq (.call fe_find_tops (.cons (.var 9) (.cons (.var 1) .nil))) (.lst .nil)) (.cons (.cmp .eq (.call fe_find_lefts (.cons (.var 9) (.cons (.var 1) .nil))) (.lst .nil)) .nil)))) (.idx (.var 9) (.cst (.int 2))))
noncomputable def b_greatest_gap : Ss := (.cons (.expr (.call fe_check_size (.cons (.var 0) (.cons (.var 1) .nil))))
  (.cons (.asg (.tup [4, 5, 6, 7]) (.var 0))
  (.cons (.asg (.name 2) c_greatest_gap_1)
  (.cons (.asg (.name 3) c_greatest_gap_2)
  (.cons (.ret (.ife (.cmp .ne (.var 3) (.lst .nil)) (.idx (.var 3) (.neg (.cst (.int 1)))) (.cst .none)))
  .nil)))))
noncomputable def fe_greatest_gap : FE := ⟨"greatest_gap", ["setting", "size"], runDef 10 b_greatest_gap⟩
theorem mm_greatest_gap (us : List U) : fe_greatest_gap.m us = outR (evalSs b_greatest_gap (us.map some ++ List.replicate (10 - us.length) none) []) := rfl
def N_law_pick : List Str := ["script", "k", "many", "cell", "drawn", "rest", "again"]
noncomputable def l_law_pick_1 : Sx := (.whil 1000 (.bop true (.cons (.cmp .gt (.var 5) (.cst (.int 0))) (.cons (.cmp .gt (.var 6) (.cst (.int 0))) .nil))) (.cons (.par 5 6 (.bin .fdiv (.var 5) (.cst (.int 840))) (.bin .sub (.var 6) (.cst (.int 1))))
  .nil))
noncomputable def b_law_pick : Ss := (.cons (.asg (.name 3) (.ife (.cmp .ne (.var 0) (.lst .nil)) (.idx (.var 0) (.bin .mod (.var 1) (.blt .len (.cons (.var 0) .nil)))) (.cst (.int 0))))
  (.cons (.par 5 6 (.bin .fdiv (.var 3) (.bin .pow (.cst (.int 10)) (.cst (.int 18)))) (.bin .fdiv (.var 1) (.blt .max2 (.cons (.blt .len (.cons (.var 0) .nil)) (.cons (.cst (.int 1)) .nil)))))
  (.cons l_law_pick_1
  (.cons (.ite (.cmp .gt (.var 5) (.cst (.int 0))) (.cons (.ret (.bin .mod (.bin .mod (.var 5) (.cst (.int 840))) (.var 2)))
  .nil) .nil)
  (.cons (.asg (.name 4) (.bin .mod (.bin .mul (.bin .add (.bin .mul (.var 3) (.cst (.int 31))) (.bin .mul (.cst (.int 6151)) (.bin .add (.var 1) (.cst (.int 1))))) (.cst (.int 40692))) (.cst (.int 2147483399))))
  (.cons (.ret (.bin .mod (.bin .mod (.bin .add (.bin .mul (.var 4) (.var 4)) (.bin .fdiv (.var 4) (.cst (.int 31)))) (.cst (.int 2147483629))) (.var 2)))
  .nil))))))
noncomputable def fe_law_pick : FE := ⟨"_law_pick", ["script", "k", "many"], runDef 7 b_law_pick⟩
theorem mm_law_pick (us : List U) : fe_law_pick.m us = outR (evalSs b_law_pick (us.map some ++ List.replicate (7 - us.length) none) []) := rfl
def N_law_draw : List Str := ["script", "at", "most", "box", "k", "wide", "high", "rest", "found"]
noncomputable def l_law_draw_1 : Sx := (.forr (.name 4) (.rg1 (.bin .add (.cst (.int 1)) (.call fe_law_pick (.cons (.var 0) (.cons (.bin .add (.var 1) (.cst (.int 4))) (.cons (.cst (.int 4)) .nil)))))) (.cons (.expr (.app 8 (.popA 7 (.call fe_law_pick (.cons (.var 0) (.cons (.bin .add (.bin .add (.var 1) (.cst (.int 5))) (.var 4)) (.cons (.blt .len (.cons (.var 7) .nil)) .nil)))))))
  .nil))
noncomputable def b_law_draw : Ss := (.cons (.par 5 6 (.bin .add (.cst (.int 1)) (.call fe_law_pick (.cons (.var 0) (.cons (.var 1) (.cons (.var 2) .nil))))) (.bin .add (.cst (.int 1)) (.call fe_law_pick (.cons (.var 0) (.cons (.bin .add (.var 1) (.cst (.int 1))) (.cons (.var 2) .nil))))))
  (.cons (.asg (.name 3) (.tup (.cons (.bin .add (.cst (.int 1)) (.call fe_law_pick (.cons (.var 0) (.cons (.bin .add (.var 1) (.cst (.int 2))) (.cons (.blt .min2 (.cons (.var 5) (.cons (.cst (.int 5)) .nil))) .nil))))) (.cons (.bin .add (.cst (.int 1)) (.call fe_law_pick (.cons (.var 0) (.cons (.bin .add (.var 1) (.cst (.int 3))) (.cons (.blt .min2 (.cons (.var 6) (.cons (.cst (.int 5)) .nil))) .nil))))) .nil))))
  (.cons (.par 7 8 (.newl (.cons (.cst (.str "top")) (.cons (.cst (.str "bottom")) (.cons (.cst (.str "left")) (.cons (.cst (.str "right")) .nil))))) (.newl .nil))
  (.cons l_law_draw_1
  (.cons (.ret (.tup (.cons (.tup (.cons (.var 5) (.cons (.var 6) .nil))) (.cons (.var 3) (.cons (.call fe_law_pick (.cons (.var 0) (.cons (.bin .add (.var 1) (.cst (.int 9))) (.cons (.cst (.int 3)) .nil)))) (.cons (.blt .tuple (.cons (.var 8) .nil)) .nil))))))
  .nil)))))
noncomputable def fe_law_draw : FE := ⟨"_law_draw", ["script", "at", "most"], runDef 9 b_law_draw⟩
theorem mm_law_draw (us : List U) : fe_law_draw.m us = outR (evalSs b_law_draw (us.map some ++ List.replicate (9 - us.length) none) []) := rfl
def N_law_class : List Str := ["error", "kinds", "names"]
noncomputable def b_law_class : Ss := (.cons (.asg (.name 1) (.newl (.cons (.isx 0 excs "InvalidSetting") (.cons (.isx 0 excs "InvalidAnchor") .nil))))
  (.cons (.expr (.ext 1 (.lst (.cons (.isx 0 excs "InvalidSide") (.cons (.isx 0 excs "InvalidSize") .nil)))))
  (.cons (.expr (.ext 1 (.lst (.cons (.isx 0 excs "InvalidNumber") (.cons (.isx 0 excs "InvalidSides") .nil)))))
  (.cons (.ite (.bop false (.cons (.cmp .ne (.mth .count (.var 1) (.cons (.cst (.bool true)) .nil)) (.cst (.int 1))) (.cons (.nt (.isv 0 excs)) .nil))) (.cons (.ret (.cst (.str "wrong")))
  .nil) .nil)
  (.cons (.asg (.name 2) (.newl (.cons (.cst (.str "InvalidSetting")) (.cons (.cst (.str "InvalidAnchor")) (.cons (.cst (.str "InvalidSide")) .nil)))))
  (.cons (.expr (.ext 2 (.lst (.cons (.cst (.str "InvalidSize")) (.cons (.cst (.str "InvalidNumber")) (.cons (.cst (.str "InvalidSides")) .nil))))))
  (.cons (.ret (.idx (.var 2) (.mth .index (.var 1) (.cons (.cst (.bool true)) .nil))))
  .nil)))))))
noncomputable def fe_law_class : FE := ⟨"_law_class", ["error"], runDef 3 b_law_class⟩
theorem mm_law_class (us : List U) : fe_law_class.m us = outR (evalSs b_law_class (us.map some ++ List.replicate (3 - us.length) none) []) := rfl
noncomputable def called : List FE := [fe_is_anchor, fe_do_fit, fe_fitting, fe_side_of, fe_place, fe_covers, fe_is_moved, fe_free_fields, fe_count_places, fe_count_side, fe_used_sides, fe_is_always_beside, fe_first_over, fe_tight_tops, fe_tight_lefts, fe_least_height, fe_least_width, fe_greatest_gap, fe_turning_tops, fe_turning_lefts, fe_way_between, fe_greatest_jump, fe_with_sides, fe_do_agree, fe_parting_anchor, fe_needless_sides, fe_shortest_list]
def N_law_result : List Str := ["call", "error"]
noncomputable def b_law_result : Ss := (.cons (.tryx excs "PopupError" 1 (.cons (.ret (.callC called 0))
  .nil) (.cons (.ret (.tup (.cons (.cst (.str "error")) (.cons (.callH fe_law_class 1) .nil))))
  .nil))
  .nil)
noncomputable def fe_law_result : FE := ⟨"_law_result", ["call"], runDef 2 b_law_result⟩
theorem mm_law_result (us : List U) : fe_law_result.m us = outR (evalSs b_law_result (us.map some ++ List.replicate (2 - us.length) none) []) := rfl
def N_law_all : List Str := ["calls", "name", "call"]
noncomputable def c_law_all_1 : P := (.lc [("call", 2)] (.name 2) (.ex (.var 0)) .no (.cmp .eq (.call fe_law_result (.cons (.var 2) .nil)) (.tup (.cons (.cst (.str "error")) (.cons (.var 1) .nil)))))
noncomputable def b_law_all : Ss := (.cons (.ret (.blt .all (.cons c_law_all_1 .nil)))
  .nil)
noncomputable def fe_law_all : FE := ⟨"_law_all", ["calls", "name"], runDef 3 b_law_all⟩
theorem mm_law_all (us : List U) : fe_law_all.m us = outR (evalSs b_law_all (us.map some ++ List.replicate (3 - us.length) none) []) := rfl
def N_law_settings : List Str := ["no", "calls"]
def ls_law_settings : List Lam := [("is_anchor", [.inl 0, .inr .none]),
  ("do_fit", [.inl 0, .inr .none, .inr .none]),
  ("fitting", [.inl 0, .inr .none]),
  ("side_of", [.inl 0, .inr .none]),
  ("place", [.inl 0, .inr .none]),
  ("covers", [.inl 0, .inr .none]),
  ("is_moved", [.inl 0, .inr .none]),
  ("free_fields", [.inl 0, .inr .none]),
  ("count_places", [.inl 0, .inr .none]),
  ("count_side", [.inl 0, .inr .none, .inr .none]),
  ("used_sides", [.inl 0, .inr .none]),
  ("is_always_beside", [.inl 0, .inr .none]),
  ("first_over", [.inl 0, .inr .none]),
  ("tight_tops", [.inl 0, .inr .none]),
  ("tight_lefts", [.inl 0, .inr .none]),
  ("least_height", [.inl 0, .inr .none]),
  ("least_width", [.inl 0, .inr .none]),
  ("greatest_gap", [.inl 0, .inr .none]),
  ("turning_tops", [.inl 0, .inr .none, .inr (.int (-1))]),
  ("turning_lefts", [.inl 0, .inr .none, .inr (.int (-1))]),
  ("way_between", [.inl 0, .inr .none, .inr .none]),
  ("greatest_jump", [.inl 0, .inr .none]),
  ("with_sides", [.inl 0, .inr .none]),
  ("do_agree", [.inl 0, .inr .none, .inr .none]),
  ("parting_anchor", [.inl 0, .inr .none, .inr .none]),
  ("needless_sides", [.inl 0, .inr .none]),
  ("shortest_list", [.inl 0, .inr .none])]
def N_law_sized : List Str := ["setting", "no", "calls"]
def ls_law_sized : List Lam := [("count_places", [.inl 0, .inl 1]),
  ("count_side", [.inl 0, .inl 1, .inr .none]),
  ("used_sides", [.inl 0, .inl 1]),
  ("is_always_beside", [.inl 0, .inl 1]),
  ("first_over", [.inl 0, .inl 1]),
  ("tight_tops", [.inl 0, .inl 1]),
  ("tight_lefts", [.inl 0, .inl 1]),
  ("least_height", [.inl 0, .inl 1]),
  ("least_width", [.inl 0, .inl 1]),
  ("greatest_gap", [.inl 0, .inl 1]),
  ("turning_tops", [.inl 0, .inl 1, .inr (.int (-1))]),
  ("turning_lefts", [.inl 0, .inl 1, .inr (.int (-1))]),
  ("greatest_jump", [.inl 0, .inl 1]),
  ("do_agree", [.inl 0, .inr (.tuple [(.str "top")]), .inl 1]),
  ("parting_anchor", [.inl 0, .inr (.tuple [(.str "top")]), .inl 1]),
  ("needless_sides", [.inl 0, .inl 1]),
  ("shortest_list", [.inl 0, .inl 1])]
def N_law_anchored : List Str := ["setting", "no", "calls"]
def ls_law_anchored : List Lam := [("do_fit", [.inl 0, .inl 1, .inr .none]),
  ("fitting", [.inl 0, .inl 1]),
  ("side_of", [.inl 0, .inl 1]),
  ("place", [.inl 0, .inl 1]),
  ("covers", [.inl 0, .inl 1]),
  ("is_moved", [.inl 0, .inl 1]),
  ("free_fields", [.inl 0, .inl 1]),
  ("way_between", [.inl 0, .inl 1, .inr .none]),
  ("way_between", [.inl 0, .inr (.tuple [(.int 0), (.int 0), (.int 1), (.int 1)]), .inl 1])]
def N_law : List Str := ["script", "box", "gap", "no", "size", "anchor", "bad", "numbers", "setting", "at", "wide", "high", "calls"]
noncomputable def c_law_1 : P := (.idx (.tup (.cons (.cst .none) (.cons (.cst (.int 5)) (.cons (.tup (.cons (.tup (.cons (.cst (.int 0)) (.cons (.cst (.int 1)) .nil))) (.cons (.tup (.cons (.cst (.int 1)) (.cons (.cst (.int 1)) .nil))) (.cons (.cst (.int 0)) (.cons (.tup (.cons (.cst (.str "top")) .nil)) .nil))))) (.cons (.var 1) (.cons (.var 2) (.cons (.tup (.cons (.tup (.cons (.cst (.int 5)) (.cons (.cst (.int 5)) .nil))) (.cons (.tup (.cons (.cst (.int 1)) (.cons (.cst (.int 1)) .nil))) (.cons (.cst (.int 0)) (.cons (.tup .nil) .nil))))) (.cons (.tup .nil) (.cons (.cst (.str "a")) .nil))))))))) (.var 9))
noncomputable def c_law_2 : P := (.idx (.tup (.cons (.cst .none) (.cons (.cst (.int 5)) (.cons (.tup (.cons (.cst (.int 0)) (.cons (.cst (.int 1)) .nil))) (.cons (.tup (.cons (.cst (.int 1)) (.cons (.cst (.int 0)) .nil))) (.cons (.tup (.cons (.bin .add (.var 10) (.cst (.int 1))) (.cons (.cst (.int 1)) .nil))) (.cons (.tup (.cons (.cst (.int 1)) (.cons (.bin .add (.var 11) (.cst (.int 1))) .nil))) (.cons (.lst (.cons (.cst (.int 1)) (.cons (.cst (.int 1)) .nil))) (.cons (.tup (.cons (.cst (.int 1)) (.cons (.cst (.bool true)) .nil))) .nil))))))))) (.var 9))
noncomputable def c_law_3 : P := (.idx (.tup (.cons (.cst .none) (.cons (.cst (.int 5)) (.cons (.tup (.cons (.cst (.int 0)) (.cons (.cst (.int 0)) (.cons (.cst (.int 0)) (.cons (.cst (.int 1)) .nil))))) (.cons (.tup (.cons (.var 10) (.cons (.cst (.int 0)) (.cons (.cst (.int 1)) (.cons (.cst (.int 1)) .nil))))) (.cons (.tup (.cons (.cst (.int 0)) (.cons (.cst (.int 0)) (.cons (.cst (.int 1)) (.cons (.bin .add (.var 11) (.cst (.int 1))) .nil))))) (.cons (.lst (.cons (.cst (.int 0)) (.cons (.cst (.int 0)) (.cons (.cst (.int 1)) (.cons (.cst (.int 1)) .nil))))) (.cons (.tup (.cons (.cst (.int 0)) (.cons (.cst (.int 0)) (.cons (.cst (.int 1)) .nil)))) (.cons (.tup (.cons (.neg (.cst (.int 1))) (.cons (.cst (.int 0)) (.cons (.cst (.int 1)) (.cons (.cst (.int 1)) .nil))))) .nil))))))))) (.var 9))
noncomputable def l_law_4 : Sx := (.forr (.name 6) (.ex (.tup (.cons (.cst .none) (.cons (.cst (.str "")) (.cons (.cst (.str "over")) (.cons (.cst (.str "Top")) (.cons (.lst (.cons (.cst (.str "top")) .nil)) (.cons (.tup (.cons (.cst (.str "top")) .nil)) (.cons (.cst (.int 5)) .nil))))))))) (.cons (.ite (.nt (.allL fe_law_all "law" ("do_fit", [.inl 8, .inr (.tuple [(.int 0), (.int 0), (.int 1), (.int 1)]), .inl 6]) "InvalidSide")) (.cons (.ret (.cst (.bool false)))
  .nil) .nil)
  (.cons (.ite (.bop true (.cons (.cmp .ne (.var 6) (.cst (.str "over"))) (.cons (.nt (.allL fe_law_all "law" ("count_side", [.inl 8, .inr (.tuple [(.int 1), (.int 1)]), .inl 6]) "InvalidSide")) .nil))) (.cons (.ret (.cst (.bool false)))
  .nil) .nil)
  .nil)))
noncomputable def l_law_5 : Sx := (.forr (.name 6) (.ex (.tup (.cons (.cst .none) (.cons (.tup .nil) (.cons (.lst (.cons (.cst (.str "top")) .nil)) (.cons (.tup (.cons (.cst (.str "top")) (.cons (.cst (.str "top")) .nil))) (.cons (.tup (.cons (.cst (.str "over")) .nil)) (.cons (.cst (.str "top")) (.cons (.tup (.cons (.cst (.int 5)) .nil)) .nil))))))))) (.cons (.lamI fe_law_all "law" 12 [("with_sides", [.inl 8, .inl 6]), ("do_agree", [.inl 8, .inl 6, .inr .none]), ("parting_anchor", [.inl 8, .inl 6, .inr .none])] "InvalidSides")
  .nil))
noncomputable def b_law : Ss := (.cons (.asg (.tup [8, 9]) (.tup (.cons (.call fe_law_draw (.cons (.var 0) (.cons (.cst (.int 0)) (.cons (.cst (.int 9)) .nil)))) (.cons (.call fe_law_pick (.cons (.var 0) (.cons (.cst (.int 20)) (.cons (.cst (.int 8)) .nil)))) .nil))))
  (.cons (.asg (.tup [10, 11]) (.idx (.var 8) (.cst (.int 0))))
  (.cons (.asg (.name 1) (.tup (.cons (.tup (.cons (.cst (.int 5)) (.cons (.cst (.int 5)) .nil))) (.cons (.tup (.cons (.cst (.int 6)) (.cons (.cst (.int 1)) .nil))) (.cons (.cst (.int 0)) (.cons (.tup (.cons (.cst (.str "top")) .nil)) .nil))))))
  (.cons (.asg (.name 2) (.tup (.cons (.tup (.cons (.cst (.int 5)) (.cons (.cst (.int 5)) .nil))) (.cons (.tup (.cons (.cst (.int 1)) (.cons (.cst (.int 1)) .nil))) (.cons (.cst (.int 6)) (.cons (.tup (.cons (.cst (.str "top")) .nil)) .nil))))))
  (.cons (.asg (.name 3) c_law_1)
  (.cons (.asg (.name 4) c_law_2)
  (.cons (.asg (.name 5) c_law_3)
  (.cons (.ite (.bop false (.cons (.nt (.allM fe_law_all "_law_settings" 1 ls_law_settings (.cons (.var 3) .nil) "InvalidSetting")) (.cons (.nt (.allM fe_law_all "_law_sized" 2 ls_law_sized (.cons (.var 8) (.cons (.var 4) .nil)) "InvalidSize")) .nil))) (.cons (.ret (.cst (.bool false)))
  .nil) .nil)
  (.cons (.ite (.nt (.allM fe_law_all "_law_anchored" 2 ls_law_anchored (.cons (.var 8) (.cons (.var 5) .nil)) "InvalidAnchor")) (.cons (.ret (.cst (.bool false)))
  .nil) .nil)
  (.cons l_law_4
  (.cons l_law_5
  (.cons (.lamR fe_law_all "law" 7 [("turning_tops", [.inl 8, .inr (.tuple [(.int 1), (.int 1)]), .inl 10]), ("turning_tops", [.inl 8, .inr (.tuple [(.int 1), (.int 1)]), .inr (.int (-1))]), ("turning_lefts", [.inl 8, .inr (.tuple [(.int 1), (.int 1)]), .inl 11]), ("turning_lefts", [.inl 8, .inr (.tuple [(.int 1), (.int 1)]), .inr (.bool true)])] "InvalidNumber" (.cmp .eq (.call fe_turning_tops (.cons (.var 8) (.cons (.idx (.var 8) (.cst (.int 0))) (.cons (.cst (.int 0)) .nil)))) (.lst .nil)))
  .nil))))))))))))
noncomputable def fe_law : FE := ⟨"law", ["script"], runDef 13 b_law⟩
theorem mm_law (us : List U) : fe_law.m us = outR (evalSs b_law (us.map some ++ List.replicate (13 - us.length) none) []) := rfl
end LW
namespace LW
open PySem PD L2
inductive Sd where | top | bottom | left | right
deriving DecidableEq
def Sd.s : Sd → Str
  | .top => "top" | .bottom => "bottom" | .left => "left" | .right => "right"
theorem Sd.inj {x y : Sd} (h : x.s = y.s) : x = y := by
  revert h
  cases x <;> cases y <;> first | exact fun _ => rfl | (intro h; exact absurd h (by decide +kernel))
structure Setg where
  w : Int
  h : Int
  bw : Int
  bh : Int
  g : Int
  sd : List Sd
structure Anc where
  l : Int
  t : Int
  w : Int
  h : Int
def sdD (l : List Sd) : List PyData := l.map fun x => .str x.s
def Setg.D (s : Setg) : PyData := .tuple [.tuple [.int s.w, .int s.h], .tuple [.int s.bw, .int s.bh], .int s.g, .tuple (sdD s.sd)]
def Anc.D (a : Anc) : PyData := .tuple [.int a.l, .int a.t, .int a.w, .int a.h]
structure Setg.Ok (s : Setg) : Prop where
  w1 : 1 ≤ s.w
  w2 : s.w ≤ 30
  h1 : 1 ≤ s.h
  h2 : s.h ≤ 30
  bw1 : 1 ≤ s.bw
  bw2 : s.bw ≤ s.w
  bh1 : 1 ≤ s.bh
  bh2 : s.bh ≤ s.h
  g1 : 0 ≤ s.g
  g2 : s.g ≤ 5
  ne : s.sd ≠ []
  nd : s.sd.Nodup
structure Anc.Ok (s : Setg) (a : Anc) : Prop where
  l : 0 ≤ a.l
  t : 0 ≤ a.t
  w : 1 ≤ a.w
  h : 1 ≤ a.h
  r : a.l + a.w ≤ s.w
  b : a.t + a.h ≤ s.h
theorem sd_count : ∀ l : List Sd, l.length = l.count .top + l.count .bottom + l.count .left + l.count .right
  | [] => rfl
  | x :: l => by
    have := sd_count l
    cases x <;> simp [List.count_cons] <;> omega
theorem sd_len4 (l : List Sd) (h : l.Nodup) : l.length ≤ 4 := by
  have q := List.nodup_iff_count.mp h
  have := q .top
  have := q .bottom
  have := q .left
  have := q .right
  have := sd_count l
  omega
def inB (lo v hi : Int) : Bool := decide (lo ≤ v) && decide (v ≤ hi)
theorem inB_t {lo v hi : Int} (h : lo ≤ v) (h2 : v ≤ hi) : inB lo v hi = true := by simp [inB, h, h2]
theorem inB_f {lo v hi : Int} (h : v < lo ∨ hi < v) : inB lo v hi = false := by
  simp only [inB, Bool.and_eq_false_iff, decide_eq_false_iff_not]; omega
theorem sdD_len (l : List Sd) : (sdD l).length = l.length := by simp [sdD]
theorem cntS_nd : ∀ (l seen : List Sd), l.Nodup → (∀ x ∈ l, x ∉ seen) → cntS (seen.map Sd.s) (l.map Sd.s) = l.length
  | [], _, _, _ => rfl
  | x :: l, seen, h, hs => by
    rw [List.map_cons, cntS, if_neg, show x.s :: seen.map Sd.s = (x :: seen).map Sd.s from rfl, cntS_nd l (x :: seen) (List.nodup_cons.mp h).2]
    · simp [Nat.add_comm]
    · intro y hy hm
      rcases List.mem_cons.mp hm with rfl | hm
      · exact (List.nodup_cons.mp h).1 hy
      · exact hs y (by simp [hy]) hm
    · intro hm
      obtain ⟨y, hy, e⟩ := List.mem_map.mp hm
      exact hs x (by simp) (Sd.inj e ▸ hy)
theorem dist_sd {l : List Sd} (h : l.Nodup) : distinct (l.map Sd.s) = l.length := cntS_nd l [] h (fun _ _ => by simp)
theorem eqvAll_sd : ∀ l : List Sd, PyData.eqvAll (sdD l) (sdD l) = true
  | [] => by simp [sdD]
  | x :: l => by
    have := eqvAll_sd l
    simp only [sdD] at this
    simp [sdD, this]
theorem eqv_sdn (l : List Sd) : PyData.eqvAll (sdD l) [] = l.isEmpty := by cases l <;> simp [sdD]
theorem depth_sd (l : List Sd) : PyData.depthAll (sdD l) ≤ 1 := depthAll_map fun x _ => by simp [PyData.depth]
theorem eqD_sd (l : List Sd) : eqD (.list (sdD l)) (.list (sdD l)) = some true := by
  rw [eqD_l (by have := depth_sd l; simp [PyData.depth]; omega)]
  simp [eqvAll_sd]
theorem flat_true (l : List Sd) : (l.map fun _ => PyData.bool true) = l.map fun x => PyData.bool ((fun _ => true) x) := rfl
theorem c_is_int (v lo hi : Int) (S : Store) : callU fe_is_int [.d (.int v), .d (.int lo), .d (.int hi)] S = .ok (.d (.bool (inB lo v hi))) S := by
  refine cuOk ?_ rfl
  rw [mm_is_int]
  by_cases h : lo ≤ v <;> by_cases h2 : v ≤ hi <;> simp [b_is_int, inB, h, h2]
theorem c_is_int_b (b : Bool) (lo hi : Int) (S : Store) : callU fe_is_int [.d (.bool b), .d (.int lo), .d (.int hi)] S = .ok (.d (.bool false)) S := by
  refine cuOk ?_ rfl
  rw [mm_is_int]
  simp [b_is_int]
theorem c_is_size (a b w h : Int) (S : Store) : callU fe_is_size [.d (.tuple [.int a, .int b]), .d (.int w), .d (.int h)] S = .ok (.d (.bool (inB 1 a w && inB 1 b h))) S := by
  refine cuOk ?_ rfl
  rw [mm_is_size]
  cases e : inB 1 a w <;> simp [b_is_size, c_is_int, e]
theorem c_is_side (x : Sd) (S : Store) : callU fe_is_side [.d (.str x.s)] S = .ok (.d (.bool true)) S := by
  refine cuOk ?_ rfl
  cases x <;> kernel_rfl
theorem c_are_sides {l : List Sd} (h0 : l ≠ []) (h : l.Nodup) (S : Store) : callU fe_are_sides [.d (.tuple (sdD l))] S = .ok (.d (.bool true)) S := by
  refine cuOk ?_ rfl
  rw [mm_are_sides]
  have hl := sd_len4 l h
  have e : PyData.eqvAll (sdD l) [] = false := by
    rw [eqv_sdn]
    cases l with
    | nil => exact absurd rfl h0
    | cons x l => rfl
  have lp : evalE c_are_sides_1 [some (.d (.tuple (sdD l))), none] [] = .ok (.d (.list (l.map fun _ => .bool true))) [] := by
    rw [c_are_sides_1, ev_lc]
    simp only [q43, q1, List.getElem?_cons_zero, Res.ok_bind, it2, lift_some, gu1]
    rw [lcLoop_map (w := fun x : Sd => U.d (.str x.s)) (h := fun _ => .bool true) (xs := l) (by simp [sdD]) rfl (fun x _ => by simp [c_is_side])]
    rw [Res.ok_bind, fitsL_ok (by simp; omega)]
  have hl2 : l.length ≤ 1000 := by omega
  have st : strs? (sdD l) = some (l.map Sd.s) := st1
  simp [b_are_sides, e, lp, flat_true, st, sdD_len, dist_sd h, hl2]
theorem c_is_setting {s : Setg} (h : s.Ok) (S : Store) : callU fe_is_setting [.d s.D] S = .ok (.d (.bool true)) S := by
  refine cuOk ?_ rfl
  rw [mm_is_setting]
  obtain ⟨h1, h2, h3, h4, h5, h6, h7, h8, h9, h10, h11, h12⟩ := h
  simp [b_is_setting, Setg.D, c_is_size, c_is_int, c_are_sides h11 h12, inB_t h1 h2, inB_t h3 h4, inB_t h5 h6, inB_t h7 h8, inB_t h9 h10]
def ancB (s : Setg) (a : Anc) : Bool := inB 0 a.l s.w && inB 0 a.t s.h && (inB 1 a.w (s.w - a.l) && inB 1 a.h (s.h - a.t))
theorem ancB_ok {s : Setg} {a : Anc} (h : a.Ok s) : ancB s a = true := by
  obtain ⟨h1, h2, h3, h4, h5, h6⟩ := h
  simp only [ancB, inB, Bool.and_eq_true, decide_eq_true_eq]; omega
theorem c_has_anchor (s : Setg) (a : Anc) (S : Store) : callU fe_has_anchor [.d s.D, .d a.D] S = .ok (.d (.bool (ancB s a))) S := by
  refine cuOk ?_ rfl
  rw [mm_has_anchor]
  cases e1 : inB 0 a.l s.w <;> cases e2 : inB 0 a.t s.h <;> cases e3 : inB 1 a.w (s.w - a.l) <;>
    simp [b_has_anchor, Setg.D, Anc.D, c_is_int, ancB, e1, e2, e3]
theorem c_check_setting {s : Setg} (h : s.Ok) (S : Store) : callU fe_check_setting [.d s.D] S = .ok (.d .none) S := by
  refine cuOk ?_ rfl
  rw [mm_check_setting]
  simp [b_check_setting, c_is_setting h]
theorem c_check_anchor {s : Setg} {a : Anc} (h : a.Ok s) (S : Store) : callU fe_check_anchor [.d s.D, .d a.D] S = .ok (.d .none) S := by
  refine cuOk ?_ rfl
  rw [mm_check_anchor]
  simp [b_check_anchor, c_has_anchor, ancB_ok h]
def room (s : Setg) (a : Anc) : Sd → Bool
  | .top => decide (s.bh + s.g ≤ a.t)
  | .bottom => decide (a.t + a.h + s.g + s.bh ≤ s.h)
  | .left => decide (s.bw + s.g ≤ a.l)
  | .right => decide (a.l + a.w + s.g + s.bw ≤ s.w)
theorem c_has_room (s : Setg) (a : Anc) (x : Sd) (S : Store) : callU fe_has_room [.d s.D, .d a.D, .d (.str x.s)] S = .ok (.d (.bool (room s a x))) S := by
  refine cuOk ?_ rfl
  cases x
  all_goals kernel_rfl
def fits (s : Setg) (a : Anc) : List Sd := s.sd.filter (room s a)
def sideS (s : Setg) (a : Anc) : Str := match fits s a with | [] => "over" | x :: _ => x.s
theorem fits_len {s : Setg} (h : s.Ok) (a : Anc) : (fits s a).length ≤ 4 := Nat.le_trans (List.length_filter_le _ _) (sd_len4 _ h.nd)
theorem c_find_fitting {s : Setg} (h : s.Ok) (a : Anc) (S : Store) : callU fe_find_fitting [.d s.D, .d a.D] S = .ok (.d (.list (sdD (fits s a)))) S := by
  refine cuOk ?_ rfl
  rw [mm_find_fitting]
  have hl := fits_len h a
  have lp : evalE c_find_fitting_1 [some (.d s.D), some (.d a.D), none] [] = .ok (.d (.list (sdD (fits s a)))) [] := by
    rw [c_find_fitting_1, ev_lc]
    have i3 : idxD s.D (.int 3) = some (.tuple (sdD s.sd)) := by simp [Setg.D]
    simp only [q43, q20, q1, q3, List.getElem?_cons_zero, Res.ok_bind, idxU_d, i3, rU_some, it2, lift_some, gu1]
    rw [lcLoop_filter (w := fun x : Sd => U.d (.str x.s)) (p := room s a) (h := fun x => .str x.s) (xs := s.sd) (by simp [sdD]) rfl (fun x _ => by
      simp [c_has_room]
      cases room s a x <;> simp)]
    rw [Res.ok_bind, fitsL_ok (by simp; exact Nat.le_trans hl (by decide))]
    rfl
  simp [b_find_fitting, lp]
theorem c_find_side {s : Setg} (h : s.Ok) (a : Anc) (S : Store) : callU fe_find_side [.d s.D, .d a.D] S = .ok (.d (.str (sideS s a))) S := by
  refine cuOk ?_ rfl
  rw [mm_find_side]
  have hl : (fits s a).length + 1 ≤ sizeLine := Nat.le_trans (Nat.succ_le_succ (fits_len h a)) (by decide)
  simp [b_find_side, c_find_fitting h, sdD_len, hl]
  unfold sideS
  cases fits s a with
  | nil => simp [sdD]
  | cons x l => simp [sdD]
theorem c_fitting {s : Setg} (h : s.Ok) {a : Anc} (ha : a.Ok s) (S : Store) : callU fe_fitting [.d s.D, .d a.D] S = .ok (.d (.list (sdD (fits s a)))) S := by
  refine cuOk ?_ rfl
  rw [mm_fitting]
  simp [b_fitting, c_check_setting h, c_check_anchor ha, c_find_fitting h]
theorem c_side_of {s : Setg} (h : s.Ok) {a : Anc} (ha : a.Ok s) (S : Store) : callU fe_side_of [.d s.D, .d a.D] S = .ok (.d (.str (sideS s a))) S := by
  refine cuOk ?_ rfl
  rw [mm_side_of]
  simp [b_side_of, c_check_setting h, c_check_anchor ha, c_find_side h]
theorem pick_loop (r0 r1 r2 r3 r4 : Option U) (rest a : Int) (ha : 0 ≤ a) (ha2 : a < 900) (S : Store) : ∃ rest' a' : Int, evalS l_law_pick_1 [r0, r1, r2, r3, r4, some (.d (.int rest)), some (.d (.int a))] S = .next [r0, r1, r2, r3, r4, some (.d (.int rest')), some (.d (.int a'))] S := by
  rw [l_law_pick_1, ev_while]
  obtain ⟨r', S', m, e, ⟨rest', a', rfl, rfl, h3⟩, _⟩ := whileLoop_inv (fun n r S' => ∃ rest a : Int, r = [r0, r1, r2, r3, r4, some (.d (.int rest)), some (.d (.int a))] ∧ S' = S ∧ a = (n : Int)) (c := fun r S => evalE (.bop true (.cons (.cmp .gt (.var 5) (.cst (.int 0))) (.cons (.cmp .gt (.var 6) (.cst (.int 0))) .nil))) r S) (f := fun r S => evalSs (.cons (.par 5 6 (.bin .fdiv (.var 5) (.cst (.int 840))) (.bin .sub (.var 6) (.cst (.int 1)))) .nil) r S) (fun n r S' ⟨rest, a, h1, h2, h3⟩ => by
      subst h1 h2
      by_cases c1 : 0 < rest
      · by_cases c2 : 0 < a
        · right
          refine ⟨by omega, by simp [c1, c2], _, _, by simp [s5]; exact ⟨rfl, rfl⟩, _, _, rfl, rfl, by omega⟩
        · left; simp [c1, c2]
      · left; simp [c1]) 1000 a.toNat _ S ⟨rest, a, rfl, rfl, by omega⟩ (by omega)
  exact ⟨rest', a', e⟩
theorem pick_ok (ns : List Int) (hn : ns.length ≤ 63) (k m : Int) (hk : 0 ≤ k) (hk2 : k < 900) (hm : 0 < m) : ∃ v : Int, fe_law_pick.m [.scr ns, .d (.int k), .d (.int m)] = .ok (.int v) ∧ 0 ≤ v ∧ v < m := by
  rw [mm_law_pick]
  have q : ∀ z : Int, smallI (z % 2147483399) = true := fun z => small_of (Int.emod_nonneg _ (by omega)) (by have := Int.emod_lt_of_pos z (b := 2147483399) (by omega); omega)
  have l1 : smallI 31 = true := by decide
  have l2 : smallI 6151 = true := by decide
  have l3 : smallI 40692 = true := by decide
  have m01 : max (0 : Int) 1 = 1 := rfl
  by_cases h0 : ns = []
  · subst h0
    obtain ⟨rest', a', e⟩ := pick_loop (some (.scr [])) (some (.d (.int k))) (some (.d (.int m))) (some (.d (.int 0))) none 0 k hk hk2 []
    by_cases c1 : 0 < rest'
    · refine ⟨rest' % 840 % m, by simp [b_law_pick, m01, s5, e, c1, s6, hm], Int.emod_nonneg _ (by omega), Int.emod_lt_of_pos _ hm⟩
    · exact ⟨_, by simp [b_law_pick, m01, e, c1, s6, hm, s5, s4, s4', q, l1, l2, l3]; rfl, Int.emod_nonneg _ (by omega), Int.emod_lt_of_pos _ hm⟩
  · have hl : 0 < ns.length := List.length_pos_iff.mpr h0
    have hl' : (0 : Int) < (ns.length : Int) := by omega
    have hlen2 : (ns.length : Int) < 18446744073709551616 := by omega
    have hmax : max (ns.length : Int) 1 = ns.length := by omega
    have hq : 0 ≤ k / (ns.length : Int) := Int.ediv_nonneg hk (by omega)
    have hq2 : k / (ns.length : Int) < 900 := Int.lt_of_le_of_lt (Int.ediv_le_self _ hk) hk2
    have g0 : 0 ≤ k % (ns.length : Int) := Int.emod_nonneg _ (by omega)
    have g1 : k % (ns.length : Int) < (ns.length : Int) := Int.emod_lt_of_pos _ hl'
    have hne : PyData.eqvAll (ns.map PyData.int) [] = false := by
      cases ns with
      | nil => exact absurd rfl h0
      | cons x xs => rfl
    obtain ⟨c, hat⟩ : ∃ c : Int, atI (ns.map PyData.int) (k % (ns.length : Int)) = some (.int c) := by
      refine ⟨ns[(k % (ns.length : Int)).toNat]'(by omega), ?_⟩
      rw [at_nat (j := (k % (ns.length : Int)).toNat) (by omega) (by rw [List.length_map]; omega)]
      rw [List.getElem_map]
    obtain ⟨rest', a', e⟩ := pick_loop (some (.scr ns)) (some (.d (.int k))) (some (.d (.int m))) (some (.d (.int c))) none (c / 1000000000000000000) (k / (ns.length : Int)) hq hq2 []
    by_cases c1 : 0 < rest'
    · refine ⟨rest' % 840 % m, by simp [b_law_pick, hne, hl, hl', hat, hmax, hlen2, s5, e, c1, s6, hm], Int.emod_nonneg _ (by omega), Int.emod_lt_of_pos _ hm⟩
    · exact ⟨_, by simp [b_law_pick, hne, hl, hl', hat, hmax, hlen2, e, c1, s6, hm, s5, s4, s4', q, l1, l2, l3]; rfl, Int.emod_nonneg _ (by omega), Int.emod_lt_of_pos _ hm⟩
noncomputable def pk (ns : List Int) (k m : Int) : Int := @dite Int (∃ v : Int, fe_law_pick.m [.scr ns, .d (.int k), .d (.int m)] = .ok (.int v) ∧ 0 ≤ v ∧ v < m) (Classical.propDecidable _) (fun h => h.choose) (fun _ => 0)
theorem pk_spec {ns : List Int} (hn : ns.length ≤ 63) {k m : Int} (hk : 0 ≤ k) (hk2 : k < 900) (hm : 0 < m) : fe_law_pick.m [.scr ns, .d (.int k), .d (.int m)] = .ok (.int (pk ns k m)) ∧ 0 ≤ pk ns k m ∧ pk ns k m < m := by
  have h := pick_ok ns hn k m hk hk2 hm
  unfold pk
  rw [dif_pos h]
  exact h.choose_spec
theorem c_pick {ns : List Int} (hn : ns.length ≤ 63) {k m : Int} (hk : 0 ≤ k) (hk2 : k < 900) (hm : 0 < m) (S : Store) : callU fe_law_pick [.scr ns, .d (.int k), .d (.int m)] S = .ok (.d (.int (pk ns k m))) S :=
  cuOk (pk_spec hn hk hk2 hm).1 rfl
theorem map_eraseIdx' {α β : Type} (f : α → β) : ∀ (l : List α) (n : Nat), (l.map f).eraseIdx n = (l.eraseIdx n).map f
  | [], _ => rfl
  | _ :: _, 0 => rfl
  | x :: l, n + 1 => by simp [map_eraseIdx' f l n]
theorem perm_erase {α : Type} : ∀ (l : List α) (n : Nat) (h : n < l.length), (l[n] :: l.eraseIdx n).Perm l
  | x :: l, 0, _ => List.Perm.refl _
  | x :: l, n + 1, h => by
    have h' : n < l.length := by simpa using h
    simp only [List.getElem_cons_succ, List.eraseIdx_cons_succ]
    exact (List.Perm.swap _ _ _).trans ((perm_erase l n h').cons x)
theorem rangeD_len (lo hi : Int) : (rangeD lo hi).length = (hi - lo).toNat := by simp [rangeD]
theorem rangeD_mem {lo hi : Int} {u : U} (h : u ∈ (rangeD lo hi).map U.d) : ∃ k : Int, u = .d (.int k) ∧ lo ≤ k ∧ k < hi := by
  simp only [rangeD, List.map_map, List.mem_map, List.mem_range] at h
  obtain ⟨k, hk, rfl⟩ := h
  exact ⟨lo + k, rfl, by omega, by omega⟩
theorem draw_loop {ns : List Int} (hn : ns.length ≤ 63) (at_ : Int) (h0 : 0 ≤ at_) (h1 : at_ ≤ 800) (r2 r3 r4 r5 r6 : Option U) : ∃ (k4 : Option U) (rest found : List Sd), evalS l_law_draw_1 [some (.scr ns), some (.d (.int at_)), r2, r3, r4, r5, r6, some (.loc 0), some (.loc 1)] [.lst (sdD [.top, .bottom, .left, .right]), .lst []] = .next [some (.scr ns), some (.d (.int at_)), r2, r3, k4, r5, r6, some (.loc 0), some (.loc 1)] [.lst (sdD rest), .lst (sdD found)] ∧ found ≠ [] ∧ found.Nodup := by
  obtain ⟨_, p1, p2⟩ := pk_spec hn (k := at_ + 4) (m := 4) (by omega) (by omega) (by omega)
  have hr : (1 + pk ns (at_ + 4) 4 ≤ 100000 ∧ -100000 ≤ 1 + pk ns (at_ + 4) 4) := by omega
  rw [l_law_draw_1, ev_for]
  have e0 : evalI (.rg1 (.bin .add (.cst (.int 1)) (.call fe_law_pick (.cons (.var 0) (.cons (.bin .add (.var 1) (.cst (.int 4))) (.cons (.cst (.int 4)) .nil)))))) [some (.scr ns), some (.d (.int at_)), r2, r3, r4, r5, r6, some (.loc 0), some (.loc 1)] [.lst (sdD [.top, .bottom, .left, .right]), .lst []] = .ok ((rangeD 0 (1 + pk ns (at_ + 4) 4)).map .d, none) [.lst (sdD [.top, .bottom, .left, .right]), .lst []] := by
    simp [c_pick hn (k := at_ + 4) (m := 4) (by omega) (by omega) (by omega), hr]
  rw [e0, Res.out_ok]
  obtain ⟨r', S', e, k4, rest, found, h1', h2, h3, h4, h5, h6⟩ := forLoop_inv (g := none) (f := fun u r S => match setT (.name 4) u r with | some r' => evalSs (.cons (.expr (.app 8 (.popA 7 (.call fe_law_pick (.cons (.var 0) (.cons (.bin .add (.bin .add (.var 1) (.cst (.int 5))) (.var 4)) (.cons (.blt .len (.cons (.var 7) .nil)) .nil))))))) .nil) r' S | none => .bad)
    (fun us r S => ∃ (k4 : Option U) (rest found : List Sd), r = [some (.scr ns), some (.d (.int at_)), r2, r3, k4, r5, r6, some (.loc 0), some (.loc 1)] ∧ S = [.lst (sdD rest), .lst (sdD found)] ∧ us.length ≤ rest.length ∧ (∀ u ∈ us, ∃ k : Int, u = .d (.int k) ∧ 0 ≤ k ∧ k < 5) ∧ (found ++ rest).Nodup ∧ 1 ≤ found.length + us.length)
    (fun u us r S ⟨k4, rest, found, q1, q2, q3, q4, q5, q6⟩ => by
      subst q1 q2
      obtain ⟨k, rfl, k1, k2⟩ := q4 u (by simp)
      have hrl : 0 < rest.length := by simp only [List.length_cons] at q3; omega
      have hrl' : (0 : Int) < (rest.length : Int) := by omega
      have h4' : rest.length ≤ 4 := sd_len4 _ (List.nodup_append.mp q5).2.1
      have h4'' : found.length ≤ 4 := sd_len4 _ (List.nodup_append.mp q5).1
      obtain ⟨_, j1, j2⟩ := pk_spec hn (k := at_ + 5 + k) (m := rest.length) (by omega) (by omega) hrl'
      have hp := c_pick hn (k := at_ + 5 + k) (m := rest.length) (by omega) (by omega) hrl'
      generalize hj : pk ns (at_ + 5 + k) rest.length = j at *
      have hj2 : j.toNat < rest.length := by omega
      have hget : (sdD rest)[j.toNat]? = some (.str (rest[j.toNat]).s) := by
        simp [sdD, List.getElem?_eq_getElem hj2]
      have hbig : j < 1000000 := by omega
      have hsz : found.length < sizeLine := Nat.lt_of_le_of_lt h4'' (by decide)
      refine ⟨_, _, ?_, rfl, some (.d (.int k)), rest.eraseIdx j.toNat, found ++ [rest[j.toNat]], rfl, rfl, ?_, fun u hu => q4 u (by simp [hu]), ?_, ?_⟩
      · simp [cellAt, rd, sdD_len, hp, popAU, appU, j1, hbig, hget, hsz]
        simp [sdD, map_eraseIdx']
      · rw [List.length_eraseIdx_of_lt hj2]; simp only [List.length_cons] at q3; omega
      · have hpm : (found ++ [rest[j.toNat]] ++ rest.eraseIdx j.toNat).Perm (found ++ rest) := by
          rw [List.append_assoc]
          exact List.Perm.append_left _ (perm_erase rest j.toNat hj2)
        exact (hpm.nodup_iff).mpr q5
      · simp; omega) ((rangeD 0 (1 + pk ns (at_ + 4) 4)).map U.d) _ _ ⟨r4, [.top, .bottom, .left, .right], [], rfl, rfl, by simp [rangeD_len]; omega, fun u hu => by
        obtain ⟨k, e, k1, k2⟩ := rangeD_mem hu
        exact ⟨k, e, k1, by omega⟩, by decide, by simp [rangeD_len]; omega⟩
  refine ⟨k4, rest, found, ?_, ?_, (List.nodup_append.mp h5).1⟩
  · rw [h1', h2] at e; exact e
  · intro z; subst z; simp at h6
theorem draw_ok {ns : List Int} (hn : ns.length ≤ 63) (at_ most : Int) (h0 : 0 ≤ at_) (h1 : at_ ≤ 800) (m1 : 1 ≤ most) (m2 : most ≤ 30) : ∃ s : Setg, fe_law_draw.m [.scr ns, .d (.int at_), .d (.int most)] = .ok s.D ∧ s.Ok ∧ s.w ≤ most ∧ s.h ≤ most ∧ s.bw ≤ 5 ∧ s.bh ≤ 5 ∧ s.g ≤ 2 := by
  obtain ⟨_, a1, a2⟩ := pk_spec hn (k := at_) (m := most) (by omega) (by omega) (by omega)
  have ca := c_pick hn (k := at_) (m := most) (by omega) (by omega) (by omega)
  obtain ⟨_, b1, b2⟩ := pk_spec hn (k := at_ + 1) (m := most) (by omega) (by omega) (by omega)
  have cb := c_pick hn (k := at_ + 1) (m := most) (by omega) (by omega) (by omega)
  generalize pk ns at_ most = w at *
  generalize pk ns (at_ + 1) most = h at *
  obtain ⟨_, c1, c2⟩ := pk_spec hn (k := at_ + 2) (m := min (1 + w) 5) (by omega) (by omega) (by omega)
  have cc := c_pick hn (k := at_ + 2) (m := min (1 + w) 5) (by omega) (by omega) (by omega)
  obtain ⟨_, d1, d2⟩ := pk_spec hn (k := at_ + 3) (m := min (1 + h) 5) (by omega) (by omega) (by omega)
  have cd := c_pick hn (k := at_ + 3) (m := min (1 + h) 5) (by omega) (by omega) (by omega)
  generalize pk ns (at_ + 2) (min (1 + w) 5) = bw at *
  generalize pk ns (at_ + 3) (min (1 + h) 5) = bh at *
  obtain ⟨_, e1, e2⟩ := pk_spec hn (k := at_ + 9) (m := 3) (by omega) (by omega) (by omega)
  have ce := c_pick hn (k := at_ + 9) (m := 3) (by omega) (by omega) (by omega)
  generalize pk ns (at_ + 9) 3 = g at *
  obtain ⟨k4, rest, found, el, f1, f2⟩ := draw_loop hn at_ h0 h1 (some (.d (.int most))) (some (.d (.tuple [.int (1 + bw), .int (1 + bh)]))) none (some (.d (.int (1 + w)))) (some (.d (.int (1 + h))))
  have hS : sdD [.top, .bottom, .left, .right] = [.str "top", .str "bottom", .str "left", .str "right"] := rfl
  rw [hS] at el
  refine ⟨⟨1 + w, 1 + h, 1 + bw, 1 + bh, g, found⟩, ?_, ⟨?_, ?_, ?_, ?_, ?_, ?_, ?_, ?_, ?_, ?_, f1, f2⟩, ?_, ?_, ?_, ?_, ?_⟩
  · rw [mm_law_draw]
    simp [b_law_draw, ca, cb, cc, cd, ce, el, rd, Setg.D]
  all_goals (first | (show (_ : Int) ≤ _; dsimp only; omega) | omega)
abbrev BadSet (d : PyData) : Prop := ∀ S, callU fe_is_setting [.d d] S = .ok (.d (.bool false)) S
abbrev BadSize (s : Setg) (d : PyData) : Prop := ∀ S, callU fe_is_size [.d d, .d (.int s.w), .d (.int s.h)] S = .ok (.d (.bool false)) S
abbrev BadAnc (s : Setg) (d : PyData) : Prop := ∀ S, callU fe_has_anchor [.d s.D, .d d] S = .ok (.d (.bool false)) S
abbrev BadSide (d : PyData) : Prop := ∀ S, callU fe_is_side [.d d] S = .ok (.d (.bool false)) S
abbrev BadSides (d : PyData) : Prop := ∀ S, callU fe_are_sides [.d d] S = .ok (.d (.bool false)) S
theorem c_set_x {d : PyData} (h : BadSet d) (S : Store) : callU fe_check_setting [.d d] S = .exc "InvalidSetting" S := by
  refine cuExc ?_ rfl
  rw [mm_check_setting]
  simp [b_check_setting, h]
theorem c_both_x {d : PyData} (h : BadSet d) (x : PyData) (S : Store) : callU fe_check_both [.d d, .d x] S = .exc "InvalidSetting" S := by
  refine cuExc ?_ rfl
  rw [mm_check_both]
  simp [b_check_both, c_set_x h]
theorem c_size_x {d : PyData} (h : BadSet d) (x : PyData) (S : Store) : callU fe_check_size [.d d, .d x] S = .exc "InvalidSetting" S := by
  refine cuExc ?_ rfl
  rw [mm_check_size]
  simp [b_check_size, c_set_x h]
theorem c_sides_x {d : PyData} (h : BadSet d) (x : PyData) (S : Store) : callU fe_check_sides [.d d, .d x] S = .exc "InvalidSetting" S := by
  refine cuExc ?_ rfl
  rw [mm_check_sides]
  simp [b_check_sides, c_set_x h]
theorem c_part_x {d : PyData} (h : BadSet d) (x y : PyData) (S : Store) : callU fe_find_parting [.d d, .d x, .d y] S = .exc "InvalidSetting" S := by
  refine cuExc ?_ rfl
  rw [mm_find_parting]
  simp [b_find_parting, c_sides_x h]
theorem i0_D (s : Setg) : idxD s.D (.int 0) = some (.tuple [.int s.w, .int s.h]) := by simp [Setg.D]
theorem c_size_z {s : Setg} (hs : s.Ok) {d : PyData} (h : BadSize s d) (S : Store) : callU fe_check_size [.d s.D, .d d] S = .exc "InvalidSize" S := by
  refine cuExc ?_ rfl
  rw [mm_check_size]
  simp [b_check_size, c_check_setting hs, i0_D, h]
theorem c_sides_top {s : Setg} (hs : s.Ok) (S : Store) : callU fe_check_sides [.d s.D, .d (.tuple [.str "top"])] S = .ok (.d .none) S := by
  refine cuOk ?_ rfl
  rw [mm_check_sides]
  have e : ∀ S, callU fe_are_sides [.d (.tuple [.str "top"])] S = .ok (.d (.bool true)) S := fun S => c_are_sides (l := [.top]) (by simp) (by simp) S
  simp [b_check_sides, c_check_setting hs, e]
theorem c_part_z {s : Setg} (hs : s.Ok) {d : PyData} (h : BadSize s d) (S : Store) : callU fe_find_parting [.d s.D, .d (.tuple [.str "top"]), .d d] S = .exc "InvalidSize" S := by
  refine cuExc ?_ rfl
  rw [mm_find_parting]
  simp [b_find_parting, c_sides_top hs, c_size_z hs h]
theorem c_anc_y {s : Setg} {d : PyData} (h : BadAnc s d) (S : Store) : callU fe_check_anchor [.d s.D, .d d] S = .exc "InvalidAnchor" S := by
  refine cuExc ?_ rfl
  rw [mm_check_anchor]
  simp [b_check_anchor, h]
theorem c_both_y {s : Setg} (hs : s.Ok) {d : PyData} (h : BadAnc s d) (S : Store) : callU fe_check_both [.d s.D, .d d] S = .exc "InvalidAnchor" S := by
  refine cuExc ?_ rfl
  rw [mm_check_both]
  simp [b_check_both, c_check_setting hs, c_anc_y h]
theorem c_anc11 {s : Setg} (hs : s.Ok) (S : Store) : callU fe_check_anchor [.d s.D, .d (.tuple [.int 0, .int 0, .int 1, .int 1])] S = .ok (.d .none) S :=
  c_check_anchor (a := ⟨0, 0, 1, 1⟩) ⟨by decide, by decide, by decide, by decide, by have := hs.w1; show (0 : Int) + 1 ≤ s.w; omega, by have := hs.h1; show (0 : Int) + 1 ≤ s.h; omega⟩ S
theorem c_size11 {s : Setg} (hs : s.Ok) (S : Store) : callU fe_check_size [.d s.D, .d (.tuple [.int 1, .int 1])] S = .ok (.d .none) S := by
  refine cuOk ?_ rfl
  rw [mm_check_size]
  simp [b_check_size, c_check_setting hs, i0_D, c_is_size, inB_t (Int.le_refl 1) hs.w1, inB_t (Int.le_refl 1) hs.h1]
theorem c_sides_w {s : Setg} (hs : s.Ok) {d : PyData} (h : BadSides d) (S : Store) : callU fe_check_sides [.d s.D, .d d] S = .exc "InvalidSides" S := by
  refine cuExc ?_ rfl
  rw [mm_check_sides]
  simp [b_check_sides, c_check_setting hs, h]
theorem c_part_w {s : Setg} (hs : s.Ok) {d : PyData} (h : BadSides d) (y : PyData) (S : Store) : callU fe_find_parting [.d s.D, .d d, .d y] S = .exc "InvalidSides" S := by
  refine cuExc ?_ rfl
  rw [mm_find_parting]
  simp [b_find_parting, c_sides_w hs h]
theorem xs_is_anchor {d : PyData} (h : BadSet d) : fe_is_anchor.m [.d d, .d .none] = .exc "InvalidSetting" := by
  rw [mm_is_anchor]
  simp [b_is_anchor, c_set_x h, c_both_x h, c_size_x h, c_sides_x h, c_part_x h]
theorem xs_do_fit {d : PyData} (h : BadSet d) : fe_do_fit.m [.d d, .d .none, .d .none] = .exc "InvalidSetting" := by
  rw [mm_do_fit]
  simp [b_do_fit, c_set_x h, c_both_x h, c_size_x h, c_sides_x h, c_part_x h]
theorem xs_fitting {d : PyData} (h : BadSet d) : fe_fitting.m [.d d, .d .none] = .exc "InvalidSetting" := by
  rw [mm_fitting]
  simp [b_fitting, c_set_x h, c_both_x h, c_size_x h, c_sides_x h, c_part_x h]
theorem xs_side_of {d : PyData} (h : BadSet d) : fe_side_of.m [.d d, .d .none] = .exc "InvalidSetting" := by
  rw [mm_side_of]
  simp [b_side_of, c_set_x h, c_both_x h, c_size_x h, c_sides_x h, c_part_x h]
theorem xs_place {d : PyData} (h : BadSet d) : fe_place.m [.d d, .d .none] = .exc "InvalidSetting" := by
  rw [mm_place]
  simp [b_place, c_set_x h, c_both_x h, c_size_x h, c_sides_x h, c_part_x h]
theorem xs_covers {d : PyData} (h : BadSet d) : fe_covers.m [.d d, .d .none] = .exc "InvalidSetting" := by
  rw [mm_covers]
  simp [b_covers, c_set_x h, c_both_x h, c_size_x h, c_sides_x h, c_part_x h]
theorem xs_is_moved {d : PyData} (h : BadSet d) : fe_is_moved.m [.d d, .d .none] = .exc "InvalidSetting" := by
  rw [mm_is_moved]
  simp [b_is_moved, c_set_x h, c_both_x h, c_size_x h, c_sides_x h, c_part_x h]
theorem xs_free_fields {d : PyData} (h : BadSet d) : fe_free_fields.m [.d d, .d .none] = .exc "InvalidSetting" := by
  rw [mm_free_fields]
  simp [b_free_fields, c_set_x h, c_both_x h, c_size_x h, c_sides_x h, c_part_x h]
theorem xs_count_places {d : PyData} (h : BadSet d) : fe_count_places.m [.d d, .d .none] = .exc "InvalidSetting" := by
  rw [mm_count_places]
  simp [b_count_places, c_set_x h, c_both_x h, c_size_x h, c_sides_x h, c_part_x h]
theorem xs_count_side {d : PyData} (h : BadSet d) : fe_count_side.m [.d d, .d .none, .d .none] = .exc "InvalidSetting" := by
  rw [mm_count_side]
  simp [b_count_side, c_set_x h, c_both_x h, c_size_x h, c_sides_x h, c_part_x h]
theorem xs_used_sides {d : PyData} (h : BadSet d) : fe_used_sides.m [.d d, .d .none] = .exc "InvalidSetting" := by
  rw [mm_used_sides]
  simp [b_used_sides, c_set_x h, c_both_x h, c_size_x h, c_sides_x h, c_part_x h]
theorem xs_is_always_beside {d : PyData} (h : BadSet d) : fe_is_always_beside.m [.d d, .d .none] = .exc "InvalidSetting" := by
  rw [mm_is_always_beside]
  simp [b_is_always_beside, c_set_x h, c_both_x h, c_size_x h, c_sides_x h, c_part_x h]
theorem xs_first_over {d : PyData} (h : BadSet d) : fe_first_over.m [.d d, .d .none] = .exc "InvalidSetting" := by
  rw [mm_first_over]
  simp [b_first_over, c_set_x h, c_both_x h, c_size_x h, c_sides_x h, c_part_x h]
theorem xs_tight_tops {d : PyData} (h : BadSet d) : fe_tight_tops.m [.d d, .d .none] = .exc "InvalidSetting" := by
  rw [mm_tight_tops]
  simp [b_tight_tops, c_set_x h, c_both_x h, c_size_x h, c_sides_x h, c_part_x h]
theorem xs_tight_lefts {d : PyData} (h : BadSet d) : fe_tight_lefts.m [.d d, .d .none] = .exc "InvalidSetting" := by
  rw [mm_tight_lefts]
  simp [b_tight_lefts, c_set_x h, c_both_x h, c_size_x h, c_sides_x h, c_part_x h]
theorem xs_least_height {d : PyData} (h : BadSet d) : fe_least_height.m [.d d, .d .none] = .exc "InvalidSetting" := by
  rw [mm_least_height]
  simp [b_least_height, c_set_x h, c_both_x h, c_size_x h, c_sides_x h, c_part_x h]
theorem xs_least_width {d : PyData} (h : BadSet d) : fe_least_width.m [.d d, .d .none] = .exc "InvalidSetting" := by
  rw [mm_least_width]
  simp [b_least_width, c_set_x h, c_both_x h, c_size_x h, c_sides_x h, c_part_x h]
theorem xs_greatest_gap {d : PyData} (h : BadSet d) : fe_greatest_gap.m [.d d, .d .none] = .exc "InvalidSetting" := by
  rw [mm_greatest_gap]
  simp [b_greatest_gap, c_set_x h, c_both_x h, c_size_x h, c_sides_x h, c_part_x h]
theorem xs_turning_tops {d : PyData} (h : BadSet d) : fe_turning_tops.m [.d d, .d .none, .d (.int (-1))] = .exc "InvalidSetting" := by
  rw [mm_turning_tops]
  simp [b_turning_tops, c_set_x h, c_both_x h, c_size_x h, c_sides_x h, c_part_x h]
theorem xs_turning_lefts {d : PyData} (h : BadSet d) : fe_turning_lefts.m [.d d, .d .none, .d (.int (-1))] = .exc "InvalidSetting" := by
  rw [mm_turning_lefts]
  simp [b_turning_lefts, c_set_x h, c_both_x h, c_size_x h, c_sides_x h, c_part_x h]
theorem xs_way_between {d : PyData} (h : BadSet d) : fe_way_between.m [.d d, .d .none, .d .none] = .exc "InvalidSetting" := by
  rw [mm_way_between]
  simp [b_way_between, c_set_x h, c_both_x h, c_size_x h, c_sides_x h, c_part_x h]
theorem xs_greatest_jump {d : PyData} (h : BadSet d) : fe_greatest_jump.m [.d d, .d .none] = .exc "InvalidSetting" := by
  rw [mm_greatest_jump]
  simp [b_greatest_jump, c_set_x h, c_both_x h, c_size_x h, c_sides_x h, c_part_x h]
theorem xs_with_sides {d : PyData} (h : BadSet d) : fe_with_sides.m [.d d, .d .none] = .exc "InvalidSetting" := by
  rw [mm_with_sides]
  simp [b_with_sides, c_set_x h, c_both_x h, c_size_x h, c_sides_x h, c_part_x h]
theorem xs_do_agree {d : PyData} (h : BadSet d) : fe_do_agree.m [.d d, .d .none, .d .none] = .exc "InvalidSetting" := by
  rw [mm_do_agree]
  simp [b_do_agree, c_set_x h, c_both_x h, c_size_x h, c_sides_x h, c_part_x h]
theorem xs_parting_anchor {d : PyData} (h : BadSet d) : fe_parting_anchor.m [.d d, .d .none, .d .none] = .exc "InvalidSetting" := by
  rw [mm_parting_anchor]
  simp [b_parting_anchor, c_set_x h, c_both_x h, c_size_x h, c_sides_x h, c_part_x h]
theorem xs_needless_sides {d : PyData} (h : BadSet d) : fe_needless_sides.m [.d d, .d .none] = .exc "InvalidSetting" := by
  rw [mm_needless_sides]
  simp [b_needless_sides, c_set_x h, c_both_x h, c_size_x h, c_sides_x h, c_part_x h]
theorem xs_shortest_list {d : PyData} (h : BadSet d) : fe_shortest_list.m [.d d, .d .none] = .exc "InvalidSetting" := by
  rw [mm_shortest_list]
  simp [b_shortest_list, c_set_x h, c_both_x h, c_size_x h, c_sides_x h, c_part_x h]
theorem xz_count_places {s : Setg} (hs : s.Ok) {d : PyData} (h : BadSize s d) : fe_count_places.m [.d s.D, .d d] = .exc "InvalidSize" := by
  rw [mm_count_places]
  simp [b_count_places, c_size_z hs h, c_part_z hs h]
theorem xz_count_side {s : Setg} (hs : s.Ok) {d : PyData} (h : BadSize s d) : fe_count_side.m [.d s.D, .d d, .d .none] = .exc "InvalidSize" := by
  rw [mm_count_side]
  simp [b_count_side, c_size_z hs h, c_part_z hs h]
theorem xz_used_sides {s : Setg} (hs : s.Ok) {d : PyData} (h : BadSize s d) : fe_used_sides.m [.d s.D, .d d] = .exc "InvalidSize" := by
  rw [mm_used_sides]
  simp [b_used_sides, c_size_z hs h, c_part_z hs h]
theorem xz_is_always_beside {s : Setg} (hs : s.Ok) {d : PyData} (h : BadSize s d) : fe_is_always_beside.m [.d s.D, .d d] = .exc "InvalidSize" := by
  rw [mm_is_always_beside]
  simp [b_is_always_beside, c_size_z hs h, c_part_z hs h]
theorem xz_first_over {s : Setg} (hs : s.Ok) {d : PyData} (h : BadSize s d) : fe_first_over.m [.d s.D, .d d] = .exc "InvalidSize" := by
  rw [mm_first_over]
  simp [b_first_over, c_size_z hs h, c_part_z hs h]
theorem xz_tight_tops {s : Setg} (hs : s.Ok) {d : PyData} (h : BadSize s d) : fe_tight_tops.m [.d s.D, .d d] = .exc "InvalidSize" := by
  rw [mm_tight_tops]
  simp [b_tight_tops, c_size_z hs h, c_part_z hs h]
theorem xz_tight_lefts {s : Setg} (hs : s.Ok) {d : PyData} (h : BadSize s d) : fe_tight_lefts.m [.d s.D, .d d] = .exc "InvalidSize" := by
  rw [mm_tight_lefts]
  simp [b_tight_lefts, c_size_z hs h, c_part_z hs h]
theorem xz_least_height {s : Setg} (hs : s.Ok) {d : PyData} (h : BadSize s d) : fe_least_height.m [.d s.D, .d d] = .exc "InvalidSize" := by
  rw [mm_least_height]
  simp [b_least_height, c_size_z hs h, c_part_z hs h]
theorem xz_least_width {s : Setg} (hs : s.Ok) {d : PyData} (h : BadSize s d) : fe_least_width.m [.d s.D, .d d] = .exc "InvalidSize" := by
  rw [mm_least_width]
  simp [b_least_width, c_size_z hs h, c_part_z hs h]
theorem xz_greatest_gap {s : Setg} (hs : s.Ok) {d : PyData} (h : BadSize s d) : fe_greatest_gap.m [.d s.D, .d d] = .exc "InvalidSize" := by
  rw [mm_greatest_gap]
  simp [b_greatest_gap, c_size_z hs h, c_part_z hs h]
theorem xz_turning_tops {s : Setg} (hs : s.Ok) {d : PyData} (h : BadSize s d) : fe_turning_tops.m [.d s.D, .d d, .d (.int (-1))] = .exc "InvalidSize" := by
  rw [mm_turning_tops]
  simp [b_turning_tops, c_size_z hs h, c_part_z hs h]
theorem xz_turning_lefts {s : Setg} (hs : s.Ok) {d : PyData} (h : BadSize s d) : fe_turning_lefts.m [.d s.D, .d d, .d (.int (-1))] = .exc "InvalidSize" := by
  rw [mm_turning_lefts]
  simp [b_turning_lefts, c_size_z hs h, c_part_z hs h]
theorem xz_greatest_jump {s : Setg} (hs : s.Ok) {d : PyData} (h : BadSize s d) : fe_greatest_jump.m [.d s.D, .d d] = .exc "InvalidSize" := by
  rw [mm_greatest_jump]
  simp [b_greatest_jump, c_size_z hs h, c_part_z hs h]
theorem xz_do_agree {s : Setg} (hs : s.Ok) {d : PyData} (h : BadSize s d) : fe_do_agree.m [.d s.D, .d (.tuple [(.str "top")]), .d d] = .exc "InvalidSize" := by
  rw [mm_do_agree]
  simp [b_do_agree, c_size_z hs h, c_part_z hs h]
theorem xz_parting_anchor {s : Setg} (hs : s.Ok) {d : PyData} (h : BadSize s d) : fe_parting_anchor.m [.d s.D, .d (.tuple [(.str "top")]), .d d] = .exc "InvalidSize" := by
  rw [mm_parting_anchor]
  simp [b_parting_anchor, c_size_z hs h, c_part_z hs h]
theorem xz_needless_sides {s : Setg} (hs : s.Ok) {d : PyData} (h : BadSize s d) : fe_needless_sides.m [.d s.D, .d d] = .exc "InvalidSize" := by
  rw [mm_needless_sides]
  simp [b_needless_sides, c_size_z hs h, c_part_z hs h]
theorem xz_shortest_list {s : Setg} (hs : s.Ok) {d : PyData} (h : BadSize s d) : fe_shortest_list.m [.d s.D, .d d] = .exc "InvalidSize" := by
  rw [mm_shortest_list]
  simp [b_shortest_list, c_size_z hs h, c_part_z hs h]
theorem xa_0 {s : Setg} (hs : s.Ok) {d : PyData} (h : BadAnc s d) : fe_do_fit.m [.d s.D, .d d, .d .none] = .exc "InvalidAnchor" := by
  rw [mm_do_fit]
  simp [b_do_fit, c_check_setting hs, c_anc_y h, c_both_y hs h, c_anc11 hs]
theorem xa_1 {s : Setg} (hs : s.Ok) {d : PyData} (h : BadAnc s d) : fe_fitting.m [.d s.D, .d d] = .exc "InvalidAnchor" := by
  rw [mm_fitting]
  simp [b_fitting, c_check_setting hs, c_anc_y h, c_both_y hs h, c_anc11 hs]
theorem xa_2 {s : Setg} (hs : s.Ok) {d : PyData} (h : BadAnc s d) : fe_side_of.m [.d s.D, .d d] = .exc "InvalidAnchor" := by
  rw [mm_side_of]
  simp [b_side_of, c_check_setting hs, c_anc_y h, c_both_y hs h, c_anc11 hs]
theorem xa_3 {s : Setg} (hs : s.Ok) {d : PyData} (h : BadAnc s d) : fe_place.m [.d s.D, .d d] = .exc "InvalidAnchor" := by
  rw [mm_place]
  simp [b_place, c_check_setting hs, c_anc_y h, c_both_y hs h, c_anc11 hs]
theorem xa_4 {s : Setg} (hs : s.Ok) {d : PyData} (h : BadAnc s d) : fe_covers.m [.d s.D, .d d] = .exc "InvalidAnchor" := by
  rw [mm_covers]
  simp [b_covers, c_check_setting hs, c_anc_y h, c_both_y hs h, c_anc11 hs]
theorem xa_5 {s : Setg} (hs : s.Ok) {d : PyData} (h : BadAnc s d) : fe_is_moved.m [.d s.D, .d d] = .exc "InvalidAnchor" := by
  rw [mm_is_moved]
  simp [b_is_moved, c_check_setting hs, c_anc_y h, c_both_y hs h, c_anc11 hs]
theorem xa_6 {s : Setg} (hs : s.Ok) {d : PyData} (h : BadAnc s d) : fe_free_fields.m [.d s.D, .d d] = .exc "InvalidAnchor" := by
  rw [mm_free_fields]
  simp [b_free_fields, c_check_setting hs, c_anc_y h, c_both_y hs h, c_anc11 hs]
theorem xa_7 {s : Setg} (hs : s.Ok) {d : PyData} (h : BadAnc s d) : fe_way_between.m [.d s.D, .d d, .d .none] = .exc "InvalidAnchor" := by
  rw [mm_way_between]
  simp [b_way_between, c_check_setting hs, c_anc_y h, c_both_y hs h, c_anc11 hs]
theorem xa_8 {s : Setg} (hs : s.Ok) {d : PyData} (h : BadAnc s d) : fe_way_between.m [.d s.D, .d (.tuple [(.int 0), (.int 0), (.int 1), (.int 1)]), .d d] = .exc "InvalidAnchor" := by
  rw [mm_way_between]
  simp [b_way_between, c_check_setting hs, c_anc_y h, c_both_y hs h, c_anc11 hs]
theorem xd_do_fit {s : Setg} (hs : s.Ok) {d : PyData} (h : BadSide d) : fe_do_fit.m [.d s.D, .d (.tuple [(.int 0), (.int 0), (.int 1), (.int 1)]), .d d] = .exc "InvalidSide" := by
  rw [mm_do_fit]
  simp [b_do_fit, c_check_setting hs, c_anc11 hs, h]
theorem xd_count_side {s : Setg} (hs : s.Ok) {d : PyData} (h : BadSide d) (h2 : eqD d (.str "over") = some false) : fe_count_side.m [.d s.D, .d (.tuple [(.int 1), (.int 1)]), .d d] = .exc "InvalidSide" := by
  rw [mm_count_side]
  simp [b_count_side, c_size11 hs, h, h2]
theorem xw_with_sides {s : Setg} (hs : s.Ok) {d : PyData} (h : BadSides d) : fe_with_sides.m [.d s.D, .d d] = .exc "InvalidSides" := by
  rw [mm_with_sides]
  simp [b_with_sides, c_sides_w hs h]
theorem xw_do_agree {s : Setg} (hs : s.Ok) {d : PyData} (h : BadSides d) : fe_do_agree.m [.d s.D, .d d, .d .none] = .exc "InvalidSides" := by
  rw [mm_do_agree]
  simp [b_do_agree, c_part_w hs h]
theorem xw_parting_anchor {s : Setg} (hs : s.Ok) {d : PyData} (h : BadSides d) : fe_parting_anchor.m [.d s.D, .d d, .d .none] = .exc "InvalidSides" := by
  rw [mm_parting_anchor]
  simp [b_parting_anchor, c_part_w hs h]
theorem c_start_n {d : PyData} {m : Int} (h : ∀ S, callU fe_is_int [.d d, .d (.int 0), .d (.int m)] S = .ok (.d (.bool false)) S) (S : Store) : callU fe_check_start [.d d, .d (.int m)] S = .exc "InvalidNumber" S := by
  refine cuExc ?_ rfl
  rw [mm_check_start]
  simp [b_check_start, h]
theorem st45 (r : Rho) : setT (.tup [4, 5]) (.d (.tuple [.int 1, .int 1])) r = some ((r.set 4 (some (.d (.int 1)))).set 5 (some (.d (.int 1)))) := rfl
theorem xn_turning_tops {s : Setg} (hs : s.Ok) {d : PyData} (h : ∀ S, callU fe_is_int [.d d, .d (.int 0), .d (.int (s.w - 1))] S = .ok (.d (.bool false)) S) : fe_turning_tops.m [.d s.D, .d (.tuple [(.int 1), (.int 1)]), .d d] = .exc "InvalidNumber" := by
  rw [mm_turning_tops]
  simp [b_turning_tops, c_size11 hs, st45, i0_D, c_start_n h]
theorem xn_turning_lefts {s : Setg} (hs : s.Ok) {d : PyData} (h : ∀ S, callU fe_is_int [.d d, .d (.int 0), .d (.int (s.h - 1))] S = .ok (.d (.bool false)) S) : fe_turning_lefts.m [.d s.D, .d (.tuple [(.int 1), (.int 1)]), .d d] = .exc "InvalidNumber" := by
  rw [mm_turning_lefts]
  simp [b_turning_lefts, c_size11 hs, st45, i0_D, c_start_n h]
def resOk (nm : Str) (u : U) : Prop := fe_law_result.m [u] = .ok (.tuple [.str "error", .str nm])
def AllR (nm : Str) : List U → Prop
  | [] => True
  | c :: cs => (c.closed = true ∧ resOk nm c) ∧ AllR nm cs
theorem AllR.mem {nm : Str} : ∀ {cs : List U}, AllR nm cs → ∀ c ∈ cs, c.closed = true ∧ resOk nm c
  | [], _, _, h => nomatch h
  | _ :: _, h, c, hc => by
    rcases List.mem_cons.mp hc with rfl | hc
    · exact h.1
    · exact h.2.mem c hc
theorem ev_callC {fes : List FE} {i : Nat} {r : Rho} {S : Store} : evalE (.callC fes i) r S = callCU fes r i S := by simp only [evalE]
theorem ev_callH {fe : FE} {i : Nat} {r : Rho} {S : Store} : evalE (.callH fe i) r S = callHU fe r i S := by simp only [evalE]
theorem ev_isv {i : Nat} {cs : List Str} {r : Rho} {S : Store} : evalE (.isv i cs) r S = isvU r i cs S := by simp only [evalE]
theorem ev_allM {fe : FE} {f : Str} {n : Nat} {ls : List Lam} {ps : Ps} {nm : Str} {r : Rho} {S : Store} : evalE (.allM fe f n ls ps nm) r S = (evalEs ps r S).bind fun us S1 => if us.length = n then (match asDs us with | some ds => allU fe f (fun j => ds[j]?) ls nm S1 | none => .bad) else .bad := by first | (simp only [evalE]; done) | (simp only [evalE]; rfl)
theorem ev_allL {fe : FE} {f : Str} {l : Lam} {nm : Str} {r : Rho} {S : Store} : evalE (.allL fe f l nm) r S = allU fe f (slotD r) [l] nm S := by simp only [evalE]
theorem ev_lamI {fe : FE} {f : Str} {i : Nat} {ls : List Lam} {nm : Str} {r : Rho} {S : Store} : evalS (.lamI fe f i ls nm) r S = ((allU fe f (slotD (r.set i none)) ls nm S).bind fun u S1 => lift (asB u) S1).out (r.set i none) fun b S1 => if b then .next (r.set i none) S1 else .ret (.d (.bool false)) S1 := by simp only [evalS]
theorem ev_lamR {fe : FE} {f : Str} {i : Nat} {ls : List Lam} {nm : Str} {a : P} {r : Rho} {S : Store} : evalS (.lamR fe f i ls nm a) r S = ((allU fe f (slotD (r.set i none)) ls nm S).bind fun u S1 => lift (asB u) S1).out (r.set i none) fun b S1 => if b then (evalE a (r.set i none) S1).out (r.set i none) fun u S2 => .ret u S2 else .ret (.d (.bool false)) S1 := by simp only [evalS]
theorem res_of {x nm : Str} {ds : List PyData} {fe : FE} (hf : called.find? (fun fe => decide (fe.name = x)) = some fe) (hl : ds.length = fe.ps.length) (hm : fe.m (ds.map .d) = .exc nm) (hc : nm ∈ excs) (hk : fe_law_class.m [.exn nm] = .ok (.str nm)) : (U.clo x ds).closed = true ∧ resOk nm (.clo x ds) := by
  refine ⟨rfl, ?_⟩
  unfold resOk
  rw [mm_law_result]
  have e1 : evalSs (.cons (.ret (.callC called 0)) .nil) [some (.clo x ds), none] [] = .exc nm [some (.clo x ds), none] [] := by
    simp only [q60, q52, ev_callC, callCU, List.getElem?_cons_zero, hf, hl, if_true, hm, Res.out_exc, Out.seq_exc]
  have e2 := try_exc (C := "PopupError") (i := 1) (hand := .cons (.ret (.tup (.cons (.cst (.str "error")) (.cons (.callH fe_law_class 1) .nil)))) .nil) e1 hc
  simp only [b_law_result]
  show outR (evalSs (.cons (.tryx excs "PopupError" 1 (.cons (.ret (.callC called 0)) .nil) (.cons (.ret (.tup (.cons (.cst (.str "error")) (.cons (.callH fe_law_class 1) .nil)))) .nil)) .nil) [some (.clo x ds), none] []) = _
  rw [q60, e2]
  simp [ev_callH, callHU, hk, handOut, U.noExn]
theorem all_ok {nm : Str} {cs : List U} (h : AllR nm cs) (hl : cs.length ≤ 100) : fe_law_all.m [.ll cs, .d (.str nm)] = .ok (.bool true) := by
  rw [mm_law_all]
  have lp : evalE c_law_all_1 [some (.ll cs), some (.d (.str nm)), none] [] = .ok (.d (.list (cs.map fun _ => .bool true))) [] := by
    rw [c_law_all_1, ev_lc]
    simp only [q43, q1, List.getElem?_cons_zero, Res.ok_bind, it5, lift_some, gu5]
    rw [lcLoop_map (w := fun c : U => c) (h := fun _ => .bool true) (xs := cs) (by simp) rfl (fun c hc => by
      obtain ⟨h1, h2⟩ := h.mem c hc
      have e : ∀ S, callU fe_law_result [c] S = .ok (.d (.tuple [.str "error", .str nm])) S := fun S => cuOk h2 (by simp [h1]; rfl)
      have e2 : eqD (.tuple [.str "error", .str nm]) (.tuple [.str "error", .str nm]) = some true := by
        unfold eqD
        rw [if_pos (by simp [PyData.depth, PyData.depthAll])]
        simp
      simp [e, e2])]
    rw [Res.ok_bind, fitsL_ok (by simp; omega)]
  have bs : bools? (cs.map fun _ => PyData.bool true) = some (cs.map fun _ => true) := by
    clear lp h hl
    induction cs with
    | nil => rfl
    | cons c cs ih => simp [bools?, ih]
  have al : (cs.map fun _ => true).all id = true := by simp
  simp [b_law_all, lp, Blt.sem, bs, al]
theorem allU_ok {nm f : Str} {g : Nat → Option PyData} {ls : List Lam} {S : Store} {cs : List U} (hT : hasTab f S = true) (hc : closOf g ls = some cs) (h : AllR nm cs) (hl : cs.length ≤ 100) : allU fe_law_all f g ls nm S = .ok (.d (.bool true)) S := by
  unfold allU
  rw [if_pos ⟨hT, rfl⟩, hc]
  dsimp only
  rw [all_ok h hl]
theorem kc_InvalidSetting : fe_law_class.m [.exn "InvalidSetting"] = .ok (.str "InvalidSetting") := by kernel_rfl
theorem ke_InvalidSetting : ("InvalidSetting" : Str) ∈ excs := by decide +kernel
theorem kc_InvalidAnchor : fe_law_class.m [.exn "InvalidAnchor"] = .ok (.str "InvalidAnchor") := by kernel_rfl
theorem ke_InvalidAnchor : ("InvalidAnchor" : Str) ∈ excs := by decide +kernel
theorem kc_InvalidSide : fe_law_class.m [.exn "InvalidSide"] = .ok (.str "InvalidSide") := by kernel_rfl
theorem ke_InvalidSide : ("InvalidSide" : Str) ∈ excs := by decide +kernel
theorem kc_InvalidSize : fe_law_class.m [.exn "InvalidSize"] = .ok (.str "InvalidSize") := by kernel_rfl
theorem ke_InvalidSize : ("InvalidSize" : Str) ∈ excs := by decide +kernel
theorem kc_InvalidNumber : fe_law_class.m [.exn "InvalidNumber"] = .ok (.str "InvalidNumber") := by kernel_rfl
theorem ke_InvalidNumber : ("InvalidNumber" : Str) ∈ excs := by decide +kernel
theorem kc_InvalidSides : fe_law_class.m [.exn "InvalidSides"] = .ok (.str "InvalidSides") := by kernel_rfl
theorem ke_InvalidSides : ("InvalidSides" : Str) ∈ excs := by decide +kernel
theorem fd_is_anchor : called.find? (fun fe => decide (fe.name = ("is_anchor" : Str))) = some fe_is_anchor := by kernel_rfl
theorem fd_do_fit : called.find? (fun fe => decide (fe.name = ("do_fit" : Str))) = some fe_do_fit := by kernel_rfl
theorem fd_fitting : called.find? (fun fe => decide (fe.name = ("fitting" : Str))) = some fe_fitting := by kernel_rfl
theorem fd_side_of : called.find? (fun fe => decide (fe.name = ("side_of" : Str))) = some fe_side_of := by kernel_rfl
theorem fd_place : called.find? (fun fe => decide (fe.name = ("place" : Str))) = some fe_place := by kernel_rfl
theorem fd_covers : called.find? (fun fe => decide (fe.name = ("covers" : Str))) = some fe_covers := by kernel_rfl
theorem fd_is_moved : called.find? (fun fe => decide (fe.name = ("is_moved" : Str))) = some fe_is_moved := by kernel_rfl
theorem fd_free_fields : called.find? (fun fe => decide (fe.name = ("free_fields" : Str))) = some fe_free_fields := by kernel_rfl
theorem fd_count_places : called.find? (fun fe => decide (fe.name = ("count_places" : Str))) = some fe_count_places := by kernel_rfl
theorem fd_count_side : called.find? (fun fe => decide (fe.name = ("count_side" : Str))) = some fe_count_side := by kernel_rfl
theorem fd_used_sides : called.find? (fun fe => decide (fe.name = ("used_sides" : Str))) = some fe_used_sides := by kernel_rfl
theorem fd_is_always_beside : called.find? (fun fe => decide (fe.name = ("is_always_beside" : Str))) = some fe_is_always_beside := by kernel_rfl
theorem fd_first_over : called.find? (fun fe => decide (fe.name = ("first_over" : Str))) = some fe_first_over := by kernel_rfl
theorem fd_tight_tops : called.find? (fun fe => decide (fe.name = ("tight_tops" : Str))) = some fe_tight_tops := by kernel_rfl
theorem fd_tight_lefts : called.find? (fun fe => decide (fe.name = ("tight_lefts" : Str))) = some fe_tight_lefts := by kernel_rfl
theorem fd_least_height : called.find? (fun fe => decide (fe.name = ("least_height" : Str))) = some fe_least_height := by kernel_rfl
theorem fd_least_width : called.find? (fun fe => decide (fe.name = ("least_width" : Str))) = some fe_least_width := by kernel_rfl
theorem fd_greatest_gap : called.find? (fun fe => decide (fe.name = ("greatest_gap" : Str))) = some fe_greatest_gap := by kernel_rfl
theorem fd_turning_tops : called.find? (fun fe => decide (fe.name = ("turning_tops" : Str))) = some fe_turning_tops := by kernel_rfl
theorem fd_turning_lefts : called.find? (fun fe => decide (fe.name = ("turning_lefts" : Str))) = some fe_turning_lefts := by kernel_rfl
theorem fd_way_between : called.find? (fun fe => decide (fe.name = ("way_between" : Str))) = some fe_way_between := by kernel_rfl
theorem fd_greatest_jump : called.find? (fun fe => decide (fe.name = ("greatest_jump" : Str))) = some fe_greatest_jump := by kernel_rfl
theorem fd_with_sides : called.find? (fun fe => decide (fe.name = ("with_sides" : Str))) = some fe_with_sides := by kernel_rfl
theorem fd_do_agree : called.find? (fun fe => decide (fe.name = ("do_agree" : Str))) = some fe_do_agree := by kernel_rfl
theorem fd_parting_anchor : called.find? (fun fe => decide (fe.name = ("parting_anchor" : Str))) = some fe_parting_anchor := by kernel_rfl
theorem fd_needless_sides : called.find? (fun fe => decide (fe.name = ("needless_sides" : Str))) = some fe_needless_sides := by kernel_rfl
theorem fd_shortest_list : called.find? (fun fe => decide (fe.name = ("shortest_list" : Str))) = some fe_shortest_list := by kernel_rfl
theorem ar_set {d : PyData} (h : BadSet d) : AllR "InvalidSetting" [.clo "is_anchor" [d, .none], .clo "do_fit" [d, .none, .none], .clo "fitting" [d, .none], .clo "side_of" [d, .none], .clo "place" [d, .none], .clo "covers" [d, .none], .clo "is_moved" [d, .none], .clo "free_fields" [d, .none], .clo "count_places" [d, .none], .clo "count_side" [d, .none, .none], .clo "used_sides" [d, .none], .clo "is_always_beside" [d, .none], .clo "first_over" [d, .none], .clo "tight_tops" [d, .none], .clo "tight_lefts" [d, .none], .clo "least_height" [d, .none], .clo "least_width" [d, .none], .clo "greatest_gap" [d, .none], .clo "turning_tops" [d, .none, (.int (-1))], .clo "turning_lefts" [d, .none, (.int (-1))], .clo "way_between" [d, .none, .none], .clo "greatest_jump" [d, .none], .clo "with_sides" [d, .none], .clo "do_agree" [d, .none, .none], .clo "parting_anchor" [d, .none, .none], .clo "needless_sides" [d, .none], .clo "shortest_list" [d, .none]] :=
  ⟨res_of fd_is_anchor rfl (xs_is_anchor h) ke_InvalidSetting kc_InvalidSetting, res_of fd_do_fit rfl (xs_do_fit h) ke_InvalidSetting kc_InvalidSetting, res_of fd_fitting rfl (xs_fitting h) ke_InvalidSetting kc_InvalidSetting, res_of fd_side_of rfl (xs_side_of h) ke_InvalidSetting kc_InvalidSetting, res_of fd_place rfl (xs_place h) ke_InvalidSetting kc_InvalidSetting, res_of fd_covers rfl (xs_covers h) ke_InvalidSetting kc_InvalidSetting, res_of fd_is_moved rfl (xs_is_moved h) ke_InvalidSetting kc_InvalidSetting, res_of fd_free_fields rfl (xs_free_fields h) ke_InvalidSetting kc_InvalidSetting, res_of fd_count_places rfl (xs_count_places h) ke_InvalidSetting kc_InvalidSetting, res_of fd_count_side rfl (xs_count_side h) ke_InvalidSetting kc_InvalidSetting, res_of fd_used_sides rfl (xs_used_sides h) ke_InvalidSetting kc_InvalidSetting, res_of fd_is_always_beside rfl (xs_is_always_beside h) ke_InvalidSetting kc_InvalidSetting, res_of fd_first_over rfl (xs_first_over h) ke_InvalidSetting kc_InvalidSetting, res_of fd_tight_tops rfl (xs_tight_tops h) ke_InvalidSetting kc_InvalidSetting, res_of fd_tight_lefts rfl (xs_tight_lefts h) ke_InvalidSetting kc_InvalidSetting, res_of fd_least_height rfl (xs_least_height h) ke_InvalidSetting kc_InvalidSetting, res_of fd_least_width rfl (xs_least_width h) ke_InvalidSetting kc_InvalidSetting, res_of fd_greatest_gap rfl (xs_greatest_gap h) ke_InvalidSetting kc_InvalidSetting, res_of fd_turning_tops rfl (xs_turning_tops h) ke_InvalidSetting kc_InvalidSetting, res_of fd_turning_lefts rfl (xs_turning_lefts h) ke_InvalidSetting kc_InvalidSetting, res_of fd_way_between rfl (xs_way_between h) ke_InvalidSetting kc_InvalidSetting, res_of fd_greatest_jump rfl (xs_greatest_jump h) ke_InvalidSetting kc_InvalidSetting, res_of fd_with_sides rfl (xs_with_sides h) ke_InvalidSetting kc_InvalidSetting, res_of fd_do_agree rfl (xs_do_agree h) ke_InvalidSetting kc_InvalidSetting, res_of fd_parting_anchor rfl (xs_parting_anchor h) ke_InvalidSetting kc_InvalidSetting, res_of fd_needless_sides rfl (xs_needless_sides h) ke_InvalidSetting kc_InvalidSetting, res_of fd_shortest_list rfl (xs_shortest_list h) ke_InvalidSetting kc_InvalidSetting, trivial⟩
theorem ar_siz {s : Setg} (hs : s.Ok) {d : PyData} (h : BadSize s d) : AllR "InvalidSize" [.clo "count_places" [s.D, d], .clo "count_side" [s.D, d, .none], .clo "used_sides" [s.D, d], .clo "is_always_beside" [s.D, d], .clo "first_over" [s.D, d], .clo "tight_tops" [s.D, d], .clo "tight_lefts" [s.D, d], .clo "least_height" [s.D, d], .clo "least_width" [s.D, d], .clo "greatest_gap" [s.D, d], .clo "turning_tops" [s.D, d, (.int (-1))], .clo "turning_lefts" [s.D, d, (.int (-1))], .clo "greatest_jump" [s.D, d], .clo "do_agree" [s.D, (.tuple [(.str "top")]), d], .clo "parting_anchor" [s.D, (.tuple [(.str "top")]), d], .clo "needless_sides" [s.D, d], .clo "shortest_list" [s.D, d]] :=
  ⟨res_of fd_count_places rfl (xz_count_places hs h) ke_InvalidSize kc_InvalidSize, res_of fd_count_side rfl (xz_count_side hs h) ke_InvalidSize kc_InvalidSize, res_of fd_used_sides rfl (xz_used_sides hs h) ke_InvalidSize kc_InvalidSize, res_of fd_is_always_beside rfl (xz_is_always_beside hs h) ke_InvalidSize kc_InvalidSize, res_of fd_first_over rfl (xz_first_over hs h) ke_InvalidSize kc_InvalidSize, res_of fd_tight_tops rfl (xz_tight_tops hs h) ke_InvalidSize kc_InvalidSize, res_of fd_tight_lefts rfl (xz_tight_lefts hs h) ke_InvalidSize kc_InvalidSize, res_of fd_least_height rfl (xz_least_height hs h) ke_InvalidSize kc_InvalidSize, res_of fd_least_width rfl (xz_least_width hs h) ke_InvalidSize kc_InvalidSize, res_of fd_greatest_gap rfl (xz_greatest_gap hs h) ke_InvalidSize kc_InvalidSize, res_of fd_turning_tops rfl (xz_turning_tops hs h) ke_InvalidSize kc_InvalidSize, res_of fd_turning_lefts rfl (xz_turning_lefts hs h) ke_InvalidSize kc_InvalidSize, res_of fd_greatest_jump rfl (xz_greatest_jump hs h) ke_InvalidSize kc_InvalidSize, res_of fd_do_agree rfl (xz_do_agree hs h) ke_InvalidSize kc_InvalidSize, res_of fd_parting_anchor rfl (xz_parting_anchor hs h) ke_InvalidSize kc_InvalidSize, res_of fd_needless_sides rfl (xz_needless_sides hs h) ke_InvalidSize kc_InvalidSize, res_of fd_shortest_list rfl (xz_shortest_list hs h) ke_InvalidSize kc_InvalidSize, trivial⟩
theorem ar_anc {s : Setg} (hs : s.Ok) {d : PyData} (h : BadAnc s d) : AllR "InvalidAnchor" [.clo "do_fit" [s.D, d, .none], .clo "fitting" [s.D, d], .clo "side_of" [s.D, d], .clo "place" [s.D, d], .clo "covers" [s.D, d], .clo "is_moved" [s.D, d], .clo "free_fields" [s.D, d], .clo "way_between" [s.D, d, .none], .clo "way_between" [s.D, (.tuple [(.int 0), (.int 0), (.int 1), (.int 1)]), d]] :=
  ⟨res_of fd_do_fit rfl (xa_0 hs h) ke_InvalidAnchor kc_InvalidAnchor, res_of fd_fitting rfl (xa_1 hs h) ke_InvalidAnchor kc_InvalidAnchor, res_of fd_side_of rfl (xa_2 hs h) ke_InvalidAnchor kc_InvalidAnchor, res_of fd_place rfl (xa_3 hs h) ke_InvalidAnchor kc_InvalidAnchor, res_of fd_covers rfl (xa_4 hs h) ke_InvalidAnchor kc_InvalidAnchor, res_of fd_is_moved rfl (xa_5 hs h) ke_InvalidAnchor kc_InvalidAnchor, res_of fd_free_fields rfl (xa_6 hs h) ke_InvalidAnchor kc_InvalidAnchor, res_of fd_way_between rfl (xa_7 hs h) ke_InvalidAnchor kc_InvalidAnchor, res_of fd_way_between rfl (xa_8 hs h) ke_InvalidAnchor kc_InvalidAnchor, trivial⟩
theorem ar_fit {s : Setg} (hs : s.Ok) {d : PyData} (h : BadSide d) : AllR "InvalidSide" [.clo "do_fit" [s.D, (.tuple [(.int 0), (.int 0), (.int 1), (.int 1)]), d]] :=
  ⟨res_of fd_do_fit rfl (xd_do_fit hs h) ke_InvalidSide kc_InvalidSide, trivial⟩
theorem ar_cnt {s : Setg} (hs : s.Ok) {d : PyData} (h : BadSide d) (h2 : eqD d (.str "over") = some false) : AllR "InvalidSide" [.clo "count_side" [s.D, (.tuple [(.int 1), (.int 1)]), d]] :=
  ⟨res_of fd_count_side rfl (xd_count_side hs h h2) ke_InvalidSide kc_InvalidSide, trivial⟩
theorem ar_sds {s : Setg} (hs : s.Ok) {d : PyData} (h : BadSides d) : AllR "InvalidSides" [.clo "with_sides" [s.D, d], .clo "do_agree" [s.D, d, .none], .clo "parting_anchor" [s.D, d, .none]] :=
  ⟨res_of fd_with_sides rfl (xw_with_sides hs h) ke_InvalidSides kc_InvalidSides, res_of fd_do_agree rfl (xw_do_agree hs h) ke_InvalidSides kc_InvalidSides, res_of fd_parting_anchor rfl (xw_parting_anchor hs h) ke_InvalidSides kc_InvalidSides, trivial⟩
theorem in_w {s : Setg} (S : Store) : callU fe_is_int [.d (.int s.w), .d (.int 0), .d (.int (s.w - 1))] S = .ok (.d (.bool false)) S := by
  rw [c_is_int, inB_f (by omega)]
theorem in_h {s : Setg} (S : Store) : callU fe_is_int [.d (.int s.h), .d (.int 0), .d (.int (s.h - 1))] S = .ok (.d (.bool false)) S := by
  rw [c_is_int, inB_f (by omega)]
theorem in_m (m : Int) (S : Store) : callU fe_is_int [.d (.int (-1)), .d (.int 0), .d (.int m)] S = .ok (.d (.bool false)) S := by
  rw [c_is_int, inB_f (by omega)]
theorem ar_num {s : Setg} (hs : s.Ok) : AllR "InvalidNumber" [.clo "turning_tops" [s.D, (.tuple [(.int 1), (.int 1)]), (.int s.w)], .clo "turning_tops" [s.D, (.tuple [(.int 1), (.int 1)]), (.int (-1))], .clo "turning_lefts" [s.D, (.tuple [(.int 1), (.int 1)]), (.int s.h)], .clo "turning_lefts" [s.D, (.tuple [(.int 1), (.int 1)]), (.bool true)]] :=
  ⟨res_of fd_turning_tops rfl (xn_turning_tops hs in_w) ke_InvalidNumber kc_InvalidNumber, res_of fd_turning_tops rfl (xn_turning_tops hs (in_m _)) ke_InvalidNumber kc_InvalidNumber, res_of fd_turning_lefts rfl (xn_turning_lefts hs in_h) ke_InvalidNumber kc_InvalidNumber, res_of fd_turning_lefts rfl (xn_turning_lefts hs (c_is_int_b _ _ _)) ke_InvalidNumber kc_InvalidNumber, trivial⟩
theorem bs_0 : BadSet .none := fun S => cuOk (by kernel_rfl) rfl
theorem bs_1 : BadSet (.int 5) := fun S => cuOk (by kernel_rfl) rfl
theorem bs_2 : BadSet (.tuple [.tuple [.int 0, .int 1], .tuple [.int 1, .int 1], .int 0, .tuple [.str "top"]]) := fun S => cuOk (by kernel_rfl) rfl
def boxD : PyData := .tuple [.tuple [.int 5, .int 5], .tuple [.int 6, .int 1], .int 0, .tuple [.str "top"]]
def gapD : PyData := .tuple [.tuple [.int 5, .int 5], .tuple [.int 1, .int 1], .int 6, .tuple [.str "top"]]
theorem bs_3 : BadSet boxD := fun S => cuOk (by kernel_rfl) rfl
theorem bs_4 : BadSet gapD := fun S => cuOk (by kernel_rfl) rfl
theorem bs_5 : BadSet (.tuple [.tuple [.int 5, .int 5], .tuple [.int 1, .int 1], .int 0, .tuple []]) := fun S => cuOk (by kernel_rfl) rfl
theorem bs_6 : BadSet (.tuple []) := fun S => cuOk (by kernel_rfl) rfl
theorem bs_7 : BadSet (.str "a") := fun S => cuOk (by kernel_rfl) rfl
theorem at_cases {a : Int} (h0 : 0 ≤ a) (h1 : a < 8) : a = 0 ∨ a = 1 ∨ a = 2 ∨ a = 3 ∨ a = 4 ∨ a = 5 ∨ a = 6 ∨ a = 7 := by omega
theorem no_ok (r : Rho) (S : Store) {a : Int} (h0 : 0 ≤ a) (h1 : a < 8) (r9 : r[9]? = some (some (.d (.int a)))) (r1 : r[1]? = some (some (.d boxD))) (r2 : r[2]? = some (some (.d gapD))) : ∃ d, evalE c_law_1 r S = .ok (.d d) S ∧ BadSet d := by
  rcases at_cases h0 h1 with rfl | rfl | rfl | rfl | rfl | rfl | rfl | rfl
  · exact ⟨_, by simp [c_law_1, r9, r1, r2] <;> rfl, bs_0⟩
  · exact ⟨_, by simp [c_law_1, r9, r1, r2] <;> rfl, bs_1⟩
  · exact ⟨_, by simp [c_law_1, r9, r1, r2] <;> rfl, bs_2⟩
  · exact ⟨_, by simp [c_law_1, r9, r1, r2] <;> rfl, bs_3⟩
  · exact ⟨_, by simp [c_law_1, r9, r1, r2] <;> rfl, bs_4⟩
  · exact ⟨_, by simp [c_law_1, r9, r1, r2] <;> rfl, bs_5⟩
  · exact ⟨_, by simp [c_law_1, r9, r1, r2] <;> rfl, bs_6⟩
  · exact ⟨_, by simp [c_law_1, r9, r1, r2] <;> rfl, bs_7⟩
theorem bz_0 (s : Setg) : BadSize s .none := fun S => cuOk (by rw [mm_is_size]; simp [b_is_size]) rfl
theorem bz_1 (s : Setg) : BadSize s (.int 5) := fun S => cuOk (by rw [mm_is_size]; simp [b_is_size]) rfl
theorem bz_2 (s : Setg) : BadSize s (.tuple [.int 0, .int 1]) := fun S => by rw [c_is_size, inB_f (lo := 1) (v := 0) (by omega)]; rfl
theorem bz_3 (s : Setg) : BadSize s (.tuple [.int 1, .int 0]) := fun S => by rw [c_is_size, inB_f (lo := 1) (v := 0) (by omega), Bool.and_false]
theorem bz_4 (s : Setg) : BadSize s (.tuple [.int (s.w + 1), .int 1]) := fun S => by rw [c_is_size, inB_f (lo := 1) (v := s.w + 1) (by omega)]; rfl
theorem bz_5 (s : Setg) : BadSize s (.tuple [.int 1, .int (s.h + 1)]) := fun S => by rw [c_is_size, inB_f (lo := 1) (v := s.h + 1) (by omega), Bool.and_false]
theorem bz_6 (s : Setg) : BadSize s (.list [.int 1, .int 1]) := fun S => cuOk (by rw [mm_is_size]; simp [b_is_size]) rfl
theorem bz_7 {s : Setg} (hs : s.Ok) : BadSize s (.tuple [.int 1, .bool true]) := fun S => cuOk (by
  rw [mm_is_size]
  simp [b_is_size, c_is_int, c_is_int_b, inB_t (Int.le_refl 1) hs.w1]) rfl
theorem siz_ok {s : Setg} (hs : s.Ok) (r : Rho) (S : Store) {a : Int} (h0 : 0 ≤ a) (h1 : a < 8) (r9 : r[9]? = some (some (.d (.int a)))) (r1 : r[10]? = some (some (.d (.int s.w)))) (r2 : r[11]? = some (some (.d (.int s.h)))) : ∃ d, evalE c_law_2 r S = .ok (.d d) S ∧ BadSize s d := by
  rcases at_cases h0 h1 with rfl | rfl | rfl | rfl | rfl | rfl | rfl | rfl
  · exact ⟨_, by simp [c_law_2, r9, r1, r2] <;> rfl, bz_0 s⟩
  · exact ⟨_, by simp [c_law_2, r9, r1, r2] <;> rfl, bz_1 s⟩
  · exact ⟨_, by simp [c_law_2, r9, r1, r2] <;> rfl, bz_2 s⟩
  · exact ⟨_, by simp [c_law_2, r9, r1, r2] <;> rfl, bz_3 s⟩
  · exact ⟨_, by simp [c_law_2, r9, r1, r2] <;> rfl, bz_4 s⟩
  · exact ⟨_, by simp [c_law_2, r9, r1, r2] <;> rfl, bz_5 s⟩
  · exact ⟨_, by simp [c_law_2, r9, r1, r2] <;> rfl, bz_6 s⟩
  · exact ⟨_, by simp [c_law_2, r9, r1, r2] <;> rfl, bz_7 hs⟩
theorem ba_i {s : Setg} (a : Anc) (h : ancB s a = false) : BadAnc s a.D := fun S => by rw [c_has_anchor, h]
theorem ba_0 (s : Setg) : BadAnc s .none := fun S => cuOk (by rw [mm_has_anchor]; simp [b_has_anchor]) rfl
theorem ba_1 (s : Setg) : BadAnc s (.int 5) := fun S => cuOk (by rw [mm_has_anchor]; simp [b_has_anchor]) rfl
theorem ba_2 (s : Setg) : BadAnc s (.tuple [.int 0, .int 0, .int 0, .int 1]) := ba_i ⟨0, 0, 0, 1⟩ (by
  simp only [ancB, inB_f (lo := 1) (v := 0) (hi := s.w - 0) (by omega), Bool.false_and, Bool.and_false])
theorem ba_3 (s : Setg) : BadAnc s (.tuple [.int s.w, .int 0, .int 1, .int 1]) := ba_i ⟨s.w, 0, 1, 1⟩ (by
  simp only [ancB, inB_f (lo := 1) (v := 1) (hi := s.w - s.w) (by omega), Bool.false_and, Bool.and_false])
theorem ba_4 (s : Setg) : BadAnc s (.tuple [.int 0, .int 0, .int 1, .int (s.h + 1)]) := ba_i ⟨0, 0, 1, s.h + 1⟩ (by
  simp only [ancB, inB_f (lo := 1) (v := s.h + 1) (hi := s.h - 0) (by omega), Bool.false_and, Bool.and_false])
theorem ba_5 (s : Setg) : BadAnc s (.list [.int 0, .int 0, .int 1, .int 1]) := fun S => cuOk (by rw [mm_has_anchor]; simp [b_has_anchor]) rfl
theorem ba_6 (s : Setg) : BadAnc s (.tuple [.int 0, .int 0, .int 1]) := fun S => cuOk (by rw [mm_has_anchor]; simp [b_has_anchor]) rfl
theorem ba_7 (s : Setg) : BadAnc s (.tuple [.int (-1), .int 0, .int 1, .int 1]) := ba_i ⟨-1, 0, 1, 1⟩ (by
  simp only [ancB, inB_f (lo := 0) (v := -1) (hi := s.w) (by omega), Bool.false_and])
theorem anc_ok {s : Setg} (r : Rho) (S : Store) {a : Int} (h0 : 0 ≤ a) (h1 : a < 8) (r9 : r[9]? = some (some (.d (.int a)))) (r1 : r[10]? = some (some (.d (.int s.w)))) (r2 : r[11]? = some (some (.d (.int s.h)))) : ∃ d, evalE c_law_3 r S = .ok (.d d) S ∧ BadAnc s d := by
  rcases at_cases h0 h1 with rfl | rfl | rfl | rfl | rfl | rfl | rfl | rfl
  · exact ⟨_, by simp [c_law_3, r9, r1, r2] <;> rfl, ba_0 s⟩
  · exact ⟨_, by simp [c_law_3, r9, r1, r2] <;> rfl, ba_1 s⟩
  · exact ⟨_, by simp [c_law_3, r9, r1, r2] <;> rfl, ba_2 s⟩
  · exact ⟨_, by simp [c_law_3, r9, r1, r2] <;> rfl, ba_3 s⟩
  · exact ⟨_, by simp [c_law_3, r9, r1, r2] <;> rfl, ba_4 s⟩
  · exact ⟨_, by simp [c_law_3, r9, r1, r2] <;> rfl, ba_5 s⟩
  · exact ⟨_, by simp [c_law_3, r9, r1, r2] <;> rfl, ba_6 s⟩
  · exact ⟨_, by simp [c_law_3, r9, r1, r2] <;> rfl, ba_7 s⟩
def Rr (ns : List Int) (s : Setg) (a : Int) (no sz an : PyData) (x6 x12 : Option U) : Rho := [some (.scr ns), some (.d boxD), some (.d gapD), some (.d no), some (.d sz), some (.d an), x6, none, some (.d s.D), some (.d (.int a)), some (.d (.int s.w)), some (.d (.int s.h)), x12]
/-! the loops -/
def sideLs : List PyData := [.none, .str "", .str "over", .str "Top", .list [.str "top"], .tuple [.str "top"], .int 5]
def sidesLs : List PyData := [.none, .tuple [], .list [.str "top"], .tuple [.str "top", .str "top"], .tuple [.str "over"], .str "top", .tuple [.int 5]]
theorem side_bad : ∀ d ∈ sideLs, BadSide d ∧ (eqD d (.str "over") = some false ∨ eqD d (.str "over") = some true) := by
  simp only [sideLs, List.forall_mem_cons]
  refine ⟨⟨fun S => cuOk (by kernel_rfl) rfl, .inl (by kernel_rfl)⟩, ⟨fun S => cuOk (by kernel_rfl) rfl, .inl (by kernel_rfl)⟩, ⟨fun S => cuOk (by kernel_rfl) rfl, .inr (by kernel_rfl)⟩, ⟨fun S => cuOk (by kernel_rfl) rfl, .inl (by kernel_rfl)⟩, ⟨fun S => cuOk (by kernel_rfl) rfl, .inl (by kernel_rfl)⟩, ⟨fun S => cuOk (by kernel_rfl) rfl, .inl (by kernel_rfl)⟩, ⟨fun S => cuOk (by kernel_rfl) rfl, .inl (by kernel_rfl)⟩, fun _ z => nomatch z⟩
theorem sides_bad : ∀ d ∈ sidesLs, BadSides d := by
  simp only [sidesLs, List.forall_mem_cons]
  refine ⟨fun S => cuOk (by kernel_rfl) rfl, fun S => cuOk (by kernel_rfl) rfl, fun S => cuOk (by kernel_rfl) rfl, fun S => cuOk (by kernel_rfl) rfl, fun S => cuOk (by kernel_rfl) rfl, fun S => cuOk (by kernel_rfl) rfl, fun S => cuOk (by kernel_rfl) rfl, fun _ z => nomatch z⟩
section
variable {ns : List Int} {s : Setg} {a : Int} {no sz an : PyData} {S : Store}
theorem loop_1 (hs : s.Ok) (hT : hasTab "law" S = true) (x6 x12 : Option U) : ∃ x, evalS l_law_4 (Rr ns s a no sz an x6 x12) S = .next (Rr ns s a no sz an x x12) S := by
  unfold l_law_4
  rw [ev_for]
  have e0 : evalI (.ex (.tup (.cons (.cst .none) (.cons (.cst (.str "")) (.cons (.cst (.str "over")) (.cons (.cst (.str "Top")) (.cons (.lst (.cons (.cst (.str "top")) .nil)) (.cons (.tup (.cons (.cst (.str "top")) .nil)) (.cons (.cst (.int 5)) .nil))))))))) (Rr ns s a no sz an x6 x12) S = .ok (sideLs.map U.d, none) S := by
    simp [sideLs]
  rw [e0, Res.out_ok]
  obtain ⟨r', S', e, x, h1, h2, _⟩ := forLoop_inv (g := none) (fun us r S' => ∃ x : Option U, r = Rr ns s a no sz an x x12 ∧ S' = S ∧ ∀ u ∈ us, ∃ d, u = .d d ∧ d ∈ sideLs) (f := fun u r S => match setT (.name 6) u r with | some r' => evalSs (.cons (.ite (.nt (.allL fe_law_all "law" ("do_fit", [.inl 8, .inr (.tuple [(.int 0), (.int 0), (.int 1), (.int 1)]), .inl 6]) "InvalidSide")) (.cons (.ret (.cst (.bool false))) .nil) .nil) (.cons (.ite (.bop true (.cons (.cmp .ne (.var 6) (.cst (.str "over"))) (.cons (.nt (.allL fe_law_all "law" ("count_side", [.inl 8, .inr (.tuple [(.int 1), (.int 1)]), .inl 6]) "InvalidSide")) .nil))) (.cons (.ret (.cst (.bool false))) .nil) .nil) .nil)) r' S | none => .bad)
    (fun u us r S' ⟨x, q1, q2, q3⟩ => by
      subst q1 q2
      obtain ⟨d, rfl, hd⟩ := q3 u (by simp)
      obtain ⟨b1, b2⟩ := side_bad d hd
      refine ⟨Rr ns s a no sz an (some (.d d)) x12, S', ?_, rfl, some (.d d), rfl, rfl, fun u hu => q3 u (by simp [hu])⟩
      have s1 : setT (.name 6) (.d d) (Rr ns s a no sz an x x12) = some (Rr ns s a no sz an (some (.d d)) x12) := rfl
      have A1 : evalE (.allL fe_law_all "law" ("do_fit", [.inl 8, .inr (.tuple [(.int 0), (.int 0), (.int 1), (.int 1)]), .inl 6]) "InvalidSide") (Rr ns s a no sz an (some (.d d)) x12) S' = .ok (.d (.bool true)) S' := by
        rw [ev_allL]
        exact allU_ok hT rfl (ar_fit hs b1) (Nat.le_of_ble_eq_true rfl)
      have v6 : (Rr ns s a no sz an (some (.d d)) x12)[6]? = some (some (.d d)) := rfl
      rw [s1]
      rcases b2 with b2 | b2
      · have A2 : evalE (.allL fe_law_all "law" ("count_side", [.inl 8, .inr (.tuple [(.int 1), (.int 1)]), .inl 6]) "InvalidSide") (Rr ns s a no sz an (some (.d d)) x12) S' = .ok (.d (.bool true)) S' := by
          rw [ev_allL]
          exact allU_ok hT rfl (ar_cnt hs b1 b2) (Nat.le_of_ble_eq_true rfl)
        simp [A1, A2, v6, b2]
      · simp [A1, v6, b2]) (sideLs.map U.d) _ S ⟨x6, rfl, rfl, fun u hu => by
        obtain ⟨d, hd, rfl⟩ := List.mem_map.mp hu
        exact ⟨d, rfl, hd⟩⟩
  exact ⟨x, by rw [h1, h2] at e; exact e⟩
theorem loop_2 (hs : s.Ok) (hT : hasTab "law" S = true) (x6 x12 : Option U) : ∃ x y, evalS l_law_5 (Rr ns s a no sz an x6 x12) S = .next (Rr ns s a no sz an x y) S := by
  unfold l_law_5
  rw [ev_for]
  have e0 : evalI (.ex (.tup (.cons (.cst .none) (.cons (.tup .nil) (.cons (.lst (.cons (.cst (.str "top")) .nil)) (.cons (.tup (.cons (.cst (.str "top")) (.cons (.cst (.str "top")) .nil))) (.cons (.tup (.cons (.cst (.str "over")) .nil)) (.cons (.cst (.str "top")) (.cons (.tup (.cons (.cst (.int 5)) .nil)) .nil))))))))) (Rr ns s a no sz an x6 x12) S = .ok (sidesLs.map U.d, none) S := by
    simp [sidesLs]
  rw [e0, Res.out_ok]
  obtain ⟨r', S', e, x, y, h1, h2, _⟩ := forLoop_inv (g := none) (fun us r S' => ∃ x y : Option U, r = Rr ns s a no sz an x y ∧ S' = S ∧ ∀ u ∈ us, ∃ d, u = .d d ∧ d ∈ sidesLs) (f := fun u r S => match setT (.name 6) u r with | some r' => evalSs (.cons (.lamI fe_law_all "law" 12 [("with_sides", [.inl 8, .inl 6]), ("do_agree", [.inl 8, .inl 6, .inr .none]), ("parting_anchor", [.inl 8, .inl 6, .inr .none])] "InvalidSides") .nil) r' S | none => .bad)
    (fun u us r S' ⟨x, y, q1, q2, q3⟩ => by
      subst q1 q2
      obtain ⟨d, rfl, hd⟩ := q3 u (by simp)
      have b1 := sides_bad d hd
      refine ⟨Rr ns s a no sz an (some (.d d)) none, S', ?_, rfl, some (.d d), none, rfl, rfl, fun u hu => q3 u (by simp [hu])⟩
      have s1 : setT (.name 6) (.d d) (Rr ns s a no sz an x y) = some (Rr ns s a no sz an (some (.d d)) y) := rfl
      have s2 : (Rr ns s a no sz an (some (.d d)) y).set 12 none = Rr ns s a no sz an (some (.d d)) none := rfl
      have A1 : allU fe_law_all "law" (slotD (Rr ns s a no sz an (some (.d d)) none)) [("with_sides", [.inl 8, .inl 6]), ("do_agree", [.inl 8, .inl 6, .inr .none]), ("parting_anchor", [.inl 8, .inl 6, .inr .none])] "InvalidSides" S' = .ok (.d (.bool true)) S' := allU_ok hT rfl (ar_sds hs b1) (Nat.le_of_ble_eq_true rfl)
      rw [s1]
      dsimp only
      rw [q60, ev_lamI, s2, A1]
      rfl) (sidesLs.map U.d) _ S ⟨x6, x12, rfl, rfl, fun u hu => by
        obtain ⟨d, hd, rfl⟩ := List.mem_map.mp hu
        exact ⟨d, rfl, hd⟩⟩
  exact ⟨x, y, by rw [h1, h2] at e; exact e⟩
end
theorem c_turn_full {s : Setg} (hs : s.Ok) (S : Store) : callU fe_turning_tops [.d s.D, .d (.tuple [.int s.w, .int s.h]), .d (.int 0)] S = .ok (.d (.list [])) S := by
  refine cuOk ?_ rfl
  rw [mm_turning_tops]
  have c1 : ∀ S, callU fe_check_size [.d s.D, .d (.tuple [.int s.w, .int s.h])] S = .ok (.d .none) S := fun S => by
    refine cuOk ?_ rfl
    rw [mm_check_size]
    simp [b_check_size, c_check_setting hs, i0_D, c_is_size, inB_t hs.w1 (Int.le_refl _), inB_t hs.h1 (Int.le_refl _)]
  have c2 : ∀ S, callU fe_check_start [.d (.int 0), .d (.int (s.w - s.w))] S = .ok (.d .none) S := fun S => by
    refine cuOk ?_ rfl
    rw [mm_check_start]
    simp [b_check_start, c_is_int, inB_t (lo := 0) (v := 0) (hi := 0) (by omega) (by omega)]
  have st : ∀ r : Rho, setT (.tup [4, 5]) (.d (.tuple [.int s.w, .int s.h])) r = some ((r.set 4 (some (.d (.int s.w)))).set 5 (some (.d (.int s.h)))) := fun r => rfl
  have lp : evalE c_turning_tops_1 [some (.d s.D), some (.d (.tuple [.int s.w, .int s.h])), some (.d (.int 0)), some (.d (.list [])), some (.d (.int s.w)), some (.d (.int s.h)), none] [] = .ok (.d (.list [])) [] := by
    rw [c_turning_tops_1, ev_lc]
    simp only [q43, q1, List.getElem?_cons_zero, List.getElem?_cons_succ, Res.ok_bind, it1, lift_some, gu1, List.map_nil]
    rfl
  have rg : Blt.sem .lrg1 [.int (s.h - s.h)] = some (.list []) := by
    rw [Int.sub_self]
    rfl
  simp only [Int.sub_self] at c2 rg
  simp [b_turning_tops, c1, st, i0_D, c2, rg, lp]
theorem the_law : ∀ ns : List Int, ns.length ≤ 63 → runDefT (gs.map .tab) N_law.length b_law [.scr ns] = .ok (.bool true) := by
  intro ns hn
  obtain ⟨s, es, hs, _⟩ := draw_ok hn 0 9 (by omega) (by omega) (by omega) (by omega)
  have cd : ∀ S, callU fe_law_draw [.scr ns, .d (.int 0), .d (.int 9)] S = .ok (.d s.D) S := fun S => cuOk es rfl
  obtain ⟨_, a0, a8⟩ := pk_spec hn (k := 20) (m := 8) (by omega) (by omega) (by omega)
  have cp := c_pick hn (k := 20) (m := 8) (by omega) (by omega) (by omega)
  generalize pk ns 20 8 = a at *
  have hT1 : hasTab "_law_settings" (gs.map .tab) = true := by kernel_rfl
  have hT2 : hasTab "_law_sized" (gs.map .tab) = true := by kernel_rfl
  have hT3 : hasTab "_law_anchored" (gs.map .tab) = true := by kernel_rfl
  have hT4 : hasTab "law" (gs.map .tab) = true := by kernel_rfl
  generalize gs.map Cell.tab = S at *
  obtain ⟨no, e1, b1⟩ := no_ok [some (.scr ns), some (.d boxD), some (.d gapD), none, none, none, none, none, some (.d s.D), some (.d (.int a)), some (.d (.int s.w)), some (.d (.int s.h)), none] S a0 a8 rfl rfl rfl
  obtain ⟨sz, e2, b2⟩ := siz_ok hs [some (.scr ns), some (.d boxD), some (.d gapD), some (.d no), none, none, none, none, some (.d s.D), some (.d (.int a)), some (.d (.int s.w)), some (.d (.int s.h)), none] S a0 a8 rfl rfl rfl
  obtain ⟨an, e3, b3⟩ := anc_ok (s := s) [some (.scr ns), some (.d boxD), some (.d gapD), some (.d no), some (.d sz), none, none, none, some (.d s.D), some (.d (.int a)), some (.d (.int s.w)), some (.d (.int s.h)), none] S a0 a8 rfl rfl rfl
  have m1 : evalE (.allM fe_law_all "_law_settings" 1 ls_law_settings (.cons (.var 3) .nil) "InvalidSetting") (Rr ns s a no sz an none none) S = .ok (.d (.bool true)) S := by
    rw [ev_allM]
    have : evalEs (.cons (.var 3) .nil) (Rr ns s a no sz an none none) S = .ok [.d no] S := by simp [Rr]
    rw [this]
    show allU fe_law_all "_law_settings" (fun j => [no][j]?) ls_law_settings "InvalidSetting" S = _
    exact allU_ok hT1 rfl (ar_set b1) (Nat.le_of_ble_eq_true rfl)
  have m2 : evalE (.allM fe_law_all "_law_sized" 2 ls_law_sized (.cons (.var 8) (.cons (.var 4) .nil)) "InvalidSize") (Rr ns s a no sz an none none) S = .ok (.d (.bool true)) S := by
    rw [ev_allM]
    have : evalEs (.cons (.var 8) (.cons (.var 4) .nil)) (Rr ns s a no sz an none none) S = .ok [.d s.D, .d sz] S := by simp [Rr]
    rw [this]
    show allU fe_law_all "_law_sized" (fun j => [s.D, sz][j]?) ls_law_sized "InvalidSize" S = _
    exact allU_ok hT2 rfl (ar_siz hs b2) (Nat.le_of_ble_eq_true rfl)
  have m3 : evalE (.allM fe_law_all "_law_anchored" 2 ls_law_anchored (.cons (.var 8) (.cons (.var 5) .nil)) "InvalidAnchor") (Rr ns s a no sz an none none) S = .ok (.d (.bool true)) S := by
    rw [ev_allM]
    have : evalEs (.cons (.var 8) (.cons (.var 5) .nil)) (Rr ns s a no sz an none none) S = .ok [.d s.D, .d an] S := by simp [Rr]
    rw [this]
    show allU fe_law_all "_law_anchored" (fun j => [s.D, an][j]?) ls_law_anchored "InvalidAnchor" S = _
    exact allU_ok hT3 rfl (ar_anc hs b3) (Nat.le_of_ble_eq_true rfl)
  obtain ⟨x1, l1⟩ := loop_1 (ns := ns) (a := a) (no := no) (sz := sz) (an := an) hs hT4 none none
  obtain ⟨x2, y2, l2⟩ := loop_2 (ns := ns) (a := a) (no := no) (sz := sz) (an := an) hs hT4 x1 none
  have n1 : evalS (.lamR fe_law_all "law" 7 [("turning_tops", [.inl 8, .inr (.tuple [(.int 1), (.int 1)]), .inl 10]), ("turning_tops", [.inl 8, .inr (.tuple [(.int 1), (.int 1)]), .inr (.int (-1))]), ("turning_lefts", [.inl 8, .inr (.tuple [(.int 1), (.int 1)]), .inl 11]), ("turning_lefts", [.inl 8, .inr (.tuple [(.int 1), (.int 1)]), .inr (.bool true)])] "InvalidNumber" (.cmp .eq (.call fe_turning_tops (.cons (.var 8) (.cons (.idx (.var 8) (.cst (.int 0))) (.cons (.cst (.int 0)) .nil)))) (.lst .nil))) (Rr ns s a no sz an x2 y2) S = .ret (.d (.bool true)) S := by
    rw [ev_lamR]
    have s7 : (Rr ns s a no sz an x2 y2).set 7 none = Rr ns s a no sz an x2 y2 := rfl
    rw [s7, allU_ok (cs := [.clo "turning_tops" [s.D, .tuple [.int 1, .int 1], .int s.w], .clo "turning_tops" [s.D, .tuple [.int 1, .int 1], .int (-1)], .clo "turning_lefts" [s.D, .tuple [.int 1, .int 1], .int s.h], .clo "turning_lefts" [s.D, .tuple [.int 1, .int 1], .bool true]]) hT4 rfl (ar_num hs) (Nat.le_of_ble_eq_true rfl)]
    have eq0 : eqD (.list []) (.list []) = some true := by kernel_rfl
    have v8 : (Rr ns s a no sz an x2 y2)[8]? = some (some (.d s.D)) := rfl
    simp [v8, i0_D, c_turn_full hs, eq0]
  have main : evalSs b_law (([U.scr ns] : List U).map some ++ List.replicate (N_law.length - ([U.scr ns] : List U).length) none) S = .ret (.d (.bool true)) S := by
    have r0 : (([U.scr ns] : List U).map some ++ List.replicate (N_law.length - ([U.scr ns] : List U).length) none) = [some (.scr ns), none, none, none, none, none, none, none, none, none, none, none, none] := rfl
    rw [r0]
    unfold b_law
    have bx : boxD = .tuple [.tuple [.int 5, .int 5], .tuple [.int 6, .int 1], .int 0, .tuple [.str "top"]] := rfl
    have gx : gapD = .tuple [.tuple [.int 5, .int 5], .tuple [.int 1, .int 1], .int 6, .tuple [.str "top"]] := rfl
    simp only [Rr, bx, gx] at e1 e2 e3 m1 m2 m3 l1 l2 n1
    simp [cd, cp, i0_D, e1, e2, e3, m1, m2, m3, l1, l2, n1]
  unfold runDefT
  rw [main]
end LW
namespace LW
open PySem PySem.Spec PyProof.Rows L2 PD
section
variable {Pg : Program} {w : World} {K : PySem.W.Frag} {mg : Str → Option Value} {base : Heap}
theorem exB_0 {K : PySem.W.Frag} (h : exB K = true) : (He.tupB K "SIDES" ((["top", "bottom", "left", "right"] : List Str).map He.Dv.str) && tupDB K "SIDES") = true := by
  simp only [exB, Bool.and_eq_true] at h
  exact h.1
theorem exB_1 {K : PySem.W.Frag} (h : exB K = true) : isxB excs "InvalidAnchor" K = true := by
  simp only [exB, Bool.and_eq_true] at h
  exact h.2.1
theorem exB_2 {K : PySem.W.Frag} (h : exB K = true) : isxB excs "InvalidNumber" K = true := by
  simp only [exB, Bool.and_eq_true] at h
  exact h.2.2.1
theorem exB_3 {K : PySem.W.Frag} (h : exB K = true) : isxB excs "InvalidSetting" K = true := by
  simp only [exB, Bool.and_eq_true] at h
  exact h.2.2.2.1
theorem exB_4 {K : PySem.W.Frag} (h : exB K = true) : isxB excs "InvalidSide" K = true := by
  simp only [exB, Bool.and_eq_true] at h
  exact h.2.2.2.2.1
theorem exB_5 {K : PySem.W.Frag} (h : exB K = true) : isxB excs "InvalidSides" K = true := by
  simp only [exB, Bool.and_eq_true] at h
  exact h.2.2.2.2.2.1
theorem exB_6 {K : PySem.W.Frag} (h : exB K = true) : isxB excs "InvalidSize" K = true := by
  simp only [exB, Bool.and_eq_true] at h
  exact h.2.2.2.2.2.2.1
theorem exB_7 {K : PySem.W.Frag} (h : exB K = true) : triB excs "PopupError" K = true := by
  simp only [exB, Bool.and_eq_true] at h
  exact h.2.2.2.2.2.2.2.1
theorem exB_8 {K : PySem.W.Frag} (h : exB K = true) : isvB excs K = true := by
  simp only [exB, Bool.and_eq_true] at h
  exact h.2.2.2.2.2.2.2.2.1
theorem exB_9 {K : PySem.W.Frag} (h : exB K = true) : tabsB gs K = true := by
  simp only [exB, Bool.and_eq_true] at h
  exact h.2.2.2.2.2.2.2.2.2.1
theorem exB_last {K : PySem.W.Frag} (h : exB K = true) : tabsB gs K = true := exB_9 h
theorem sc_is_int : FnScope N_is_int ["value", "least", "most"] (defScope (top 17)) := ⟨rfl, rfl, rfl, by decide +kernel, rfl, by decide +kernel, by decide +kernel⟩
theorem m_is_int : mSs b_is_int (ctOf N_is_int (defScope (top 17))) (defBody (top 17)) = true := by decide +kernel
theorem good_is_int (T : Tx fa fn K mg) (hx : exB K = true) : GoodE Pg w K mg base 2 fe_is_int :=
  T.good (d := d_is_int) (List.mem_of_getElem? (show fn[0]? = some _ from rfl)) (List.mem_of_getElem? (show fa[0]? = some _ from rfl)) rfl (N := N_is_int) sc_is_int (fun _ _ _ _ _ _ us hl => match us, hl with | [_, _, _], _ => rfl) m_is_int trivial
theorem sc_is_size : FnScope N_is_size ["value", "wide", "high"] (defScope (top 18)) := ⟨rfl, rfl, rfl, by decide +kernel, rfl, by decide +kernel, by decide +kernel⟩
theorem m_is_size : mSs b_is_size (ctOf N_is_size (defScope (top 18))) (defBody (top 18)) = true := by decide +kernel
theorem good_is_size (T : Tx fa fn K mg) (hx : exB K = true) : GoodE Pg w K mg base 4 fe_is_size :=
  T.good (d := d_is_size) (List.mem_of_getElem? (show fn[1]? = some _ from rfl)) (List.mem_of_getElem? (show fa[1]? = some _ from rfl)) rfl (N := N_is_size) sc_is_size (fun _ _ _ _ _ _ us hl => match us, hl with | [_, _, _], _ => rfl) m_is_size (And.intro ((good_is_int T hx).mono (by decide)) (And.intro ((good_is_int T hx).mono (by decide)) trivial))
theorem sc_is_side : FnScope N_is_side ["value"] (defScope (top 19)) := ⟨rfl, rfl, rfl, by decide +kernel, rfl, by decide +kernel, by decide +kernel⟩
theorem m_is_side : mSs b_is_side (ctOf N_is_side (defScope (top 19))) (defBody (top 19)) = true := by decide +kernel
theorem good_is_side (T : Tx fa fn K mg) (hx : exB K = true) : GoodE Pg w K mg base 6 fe_is_side :=
  T.good (d := d_is_side) (List.mem_of_getElem? (show fn[2]? = some _ from rfl)) (List.mem_of_getElem? (show fa[2]? = some _ from rfl)) rfl (N := N_is_side) sc_is_side (fun _ _ _ _ _ _ us hl => match us, hl with | [_], _ => rfl) m_is_side (And.intro (T.tupS (zs := ["top", "bottom", "left", "right"]) (List.mem_of_getElem? (show fa[92]? = some _ from rfl)) (exB_0 hx)) trivial)
theorem sc_are_sides : FnScope N_are_sides ["value"] (defScope (top 20)) := ⟨rfl, rfl, rfl, by decide +kernel, rfl, by decide +kernel, by decide +kernel⟩
theorem m_are_sides : mSs b_are_sides (ctOf N_are_sides (defScope (top 20))) (defBody (top 20)) = true := by decide +kernel
theorem good_are_sides (T : Tx fa fn K mg) (hx : exB K = true) : GoodE Pg w K mg base 8 fe_are_sides :=
  T.good (d := d_are_sides) (List.mem_of_getElem? (show fn[3]? = some _ from rfl)) (List.mem_of_getElem? (show fa[3]? = some _ from rfl)) rfl (N := N_are_sides) sc_are_sides (fun _ _ _ _ _ _ us hl => match us, hl with | [_], _ => rfl) m_are_sides (And.intro ((good_is_side T hx).mono (by decide)) trivial)
theorem sc_is_setting : FnScope N_is_setting ["candidate"] (defScope (top 21)) := ⟨rfl, rfl, rfl, by decide +kernel, rfl, by decide +kernel, by decide +kernel⟩
theorem m_is_setting : mSs b_is_setting (ctOf N_is_setting (defScope (top 21))) (defBody (top 21)) = true := by decide +kernel
theorem good_is_setting (T : Tx fa fn K mg) (hx : exB K = true) : GoodE Pg w K mg base 10 fe_is_setting :=
  T.good (d := d_is_setting) (List.mem_of_getElem? (show fn[4]? = some _ from rfl)) (List.mem_of_getElem? (show fa[4]? = some _ from rfl)) rfl (N := N_is_setting) sc_is_setting (fun _ _ _ _ _ _ us hl => match us, hl with | [_], _ => rfl) m_is_setting (And.intro ((good_is_size T hx).mono (by decide)) (And.intro (T.int (List.mem_of_getElem? (show fa[89]? = some _ from rfl))) (And.intro (T.int (List.mem_of_getElem? (show fa[89]? = some _ from rfl))) (And.intro ((good_is_size T hx).mono (by decide)) (And.intro ((good_is_int T hx).mono (by decide)) (And.intro (T.int (List.mem_of_getElem? (show fa[88]? = some _ from rfl))) (And.intro ((good_are_sides T hx).mono (by decide)) trivial)))))))
theorem sc_has_anchor : FnScope N_has_anchor ["setting", "candidate"] (defScope (top 22)) := ⟨rfl, rfl, rfl, by decide +kernel, rfl, by decide +kernel, by decide +kernel⟩
theorem m_has_anchor : mSs b_has_anchor (ctOf N_has_anchor (defScope (top 22))) (defBody (top 22)) = true := by decide +kernel
theorem good_has_anchor (T : Tx fa fn K mg) (hx : exB K = true) : GoodE Pg w K mg base 12 fe_has_anchor :=
  T.good (d := d_has_anchor) (List.mem_of_getElem? (show fn[5]? = some _ from rfl)) (List.mem_of_getElem? (show fa[5]? = some _ from rfl)) rfl (N := N_has_anchor) sc_has_anchor (fun _ _ _ _ _ _ us hl => match us, hl with | [_, _], _ => rfl) m_has_anchor (And.intro ((good_is_int T hx).mono (by decide)) (And.intro ((good_is_int T hx).mono (by decide)) (And.intro ((good_is_int T hx).mono (by decide)) (And.intro ((good_is_int T hx).mono (by decide)) trivial))))
theorem sc_check_setting : FnScope N_check_setting ["value"] (defScope (top 23)) := ⟨rfl, rfl, rfl, by decide +kernel, rfl, by decide +kernel, by decide +kernel⟩
theorem m_check_setting : mSs b_check_setting (ctOf N_check_setting (defScope (top 23))) (defBody (top 23)) = true := by decide +kernel
theorem good_check_setting (T : Tx fa fn K mg) (hx : exB K = true) : GoodE Pg w K mg base 14 fe_check_setting :=
  T.good (d := d_check_setting) (List.mem_of_getElem? (show fn[6]? = some _ from rfl)) (List.mem_of_getElem? (show fa[6]? = some _ from rfl)) rfl (N := N_check_setting) sc_check_setting (fun _ _ _ _ _ _ us hl => match us, hl with | [_], _ => rfl) m_check_setting (And.intro ((good_is_setting T hx).mono (by decide)) (And.intro (T.excC (List.mem_of_getElem? (show fa[99]? = some _ from rfl)) (List.mem_of_getElem? (show fa[98]? = some _ from rfl))) trivial))
theorem sc_check_anchor : FnScope N_check_anchor ["setting", "value"] (defScope (top 24)) := ⟨rfl, rfl, rfl, by decide +kernel, rfl, by decide +kernel, by decide +kernel⟩
theorem m_check_anchor : mSs b_check_anchor (ctOf N_check_anchor (defScope (top 24))) (defBody (top 24)) = true := by decide +kernel
theorem good_check_anchor (T : Tx fa fn K mg) (hx : exB K = true) : GoodE Pg w K mg base 16 fe_check_anchor :=
  T.good (d := d_check_anchor) (List.mem_of_getElem? (show fn[7]? = some _ from rfl)) (List.mem_of_getElem? (show fa[7]? = some _ from rfl)) rfl (N := N_check_anchor) sc_check_anchor (fun _ _ _ _ _ _ us hl => match us, hl with | [_, _], _ => rfl) m_check_anchor (And.intro ((good_has_anchor T hx).mono (by decide)) (And.intro (T.excC (List.mem_of_getElem? (show fa[95]? = some _ from rfl)) (List.mem_of_getElem? (show fa[94]? = some _ from rfl))) trivial))
theorem sc_is_anchor : FnScope N_is_anchor ["setting", "candidate"] (defScope (top 25)) := ⟨rfl, rfl, rfl, by decide +kernel, rfl, by decide +kernel, by decide +kernel⟩
theorem m_is_anchor : mSs b_is_anchor (ctOf N_is_anchor (defScope (top 25))) (defBody (top 25)) = true := by decide +kernel
theorem good_is_anchor (T : Tx fa fn K mg) (hx : exB K = true) : GoodE Pg w K mg base 18 fe_is_anchor :=
  T.good (d := d_is_anchor) (List.mem_of_getElem? (show fn[8]? = some _ from rfl)) (List.mem_of_getElem? (show fa[8]? = some _ from rfl)) rfl (N := N_is_anchor) sc_is_anchor (fun _ _ _ _ _ _ us hl => match us, hl with | [_, _], _ => rfl) m_is_anchor (And.intro ((good_check_setting T hx).mono (by decide)) (And.intro ((good_has_anchor T hx).mono (by decide)) trivial))
theorem sc_has_room : FnScope N_has_room ["setting", "anchor", "side"] (defScope (top 26)) := ⟨rfl, rfl, rfl, by decide +kernel, rfl, by decide +kernel, by decide +kernel⟩
theorem m_has_room : mSs b_has_room (ctOf N_has_room (defScope (top 26))) (defBody (top 26)) = true := by decide +kernel
theorem good_has_room (T : Tx fa fn K mg) (hx : exB K = true) : GoodE Pg w K mg base 20 fe_has_room :=
  T.good (d := d_has_room) (List.mem_of_getElem? (show fn[9]? = some _ from rfl)) (List.mem_of_getElem? (show fa[9]? = some _ from rfl)) rfl (N := N_has_room) sc_has_room (fun _ _ _ _ _ _ us hl => match us, hl with | [_, _, _], _ => rfl) m_has_room (And.intro (T.str (List.mem_of_getElem? (show fa[93]? = some _ from rfl))) (And.intro (T.str (List.mem_of_getElem? (show fa[86]? = some _ from rfl))) (And.intro (T.str (List.mem_of_getElem? (show fa[87]? = some _ from rfl))) trivial)))
theorem sc_do_fit : FnScope N_do_fit ["setting", "anchor", "side"] (defScope (top 27)) := ⟨rfl, rfl, rfl, by decide +kernel, rfl, by decide +kernel, by decide +kernel⟩
theorem m_do_fit : mSs b_do_fit (ctOf N_do_fit (defScope (top 27))) (defBody (top 27)) = true := by decide +kernel
theorem good_do_fit (T : Tx fa fn K mg) (hx : exB K = true) : GoodE Pg w K mg base 22 fe_do_fit :=
  T.good (d := d_do_fit) (List.mem_of_getElem? (show fn[10]? = some _ from rfl)) (List.mem_of_getElem? (show fa[10]? = some _ from rfl)) rfl (N := N_do_fit) sc_do_fit (fun _ _ _ _ _ _ us hl => match us, hl with | [_, _, _], _ => rfl) m_do_fit (And.intro ((good_check_setting T hx).mono (by decide)) (And.intro ((good_check_anchor T hx).mono (by decide)) (And.intro ((good_is_side T hx).mono (by decide)) (And.intro (T.excC (List.mem_of_getElem? (show fa[101]? = some _ from rfl)) (List.mem_of_getElem? (show fa[100]? = some _ from rfl))) (And.intro ((good_has_room T hx).mono (by decide)) trivial)))))
theorem sc_find_fitting : FnScope N_find_fitting ["setting", "anchor"] (defScope (top 28)) := ⟨rfl, rfl, rfl, by decide +kernel, rfl, by decide +kernel, by decide +kernel⟩
theorem m_find_fitting : mSs b_find_fitting (ctOf N_find_fitting (defScope (top 28))) (defBody (top 28)) = true := by decide +kernel
theorem good_find_fitting (T : Tx fa fn K mg) (hx : exB K = true) : GoodE Pg w K mg base 24 fe_find_fitting :=
  T.good (d := d_find_fitting) (List.mem_of_getElem? (show fn[11]? = some _ from rfl)) (List.mem_of_getElem? (show fa[11]? = some _ from rfl)) rfl (N := N_find_fitting) sc_find_fitting (fun _ _ _ _ _ _ us hl => match us, hl with | [_, _], _ => rfl) m_find_fitting (And.intro ((good_has_room T hx).mono (by decide)) trivial)
theorem sc_find_side : FnScope N_find_side ["setting", "anchor"] (defScope (top 29)) := ⟨rfl, rfl, rfl, by decide +kernel, rfl, by decide +kernel, by decide +kernel⟩
theorem m_find_side : mSs b_find_side (ctOf N_find_side (defScope (top 29))) (defBody (top 29)) = true := by decide +kernel
theorem good_find_side (T : Tx fa fn K mg) (hx : exB K = true) : GoodE Pg w K mg base 26 fe_find_side :=
  T.good (d := d_find_side) (List.mem_of_getElem? (show fn[12]? = some _ from rfl)) (List.mem_of_getElem? (show fa[12]? = some _ from rfl)) rfl (N := N_find_side) sc_find_side (fun _ _ _ _ _ _ us hl => match us, hl with | [_, _], _ => rfl) m_find_side (And.intro ((good_find_fitting T hx).mono (by decide)) (And.intro (T.str (List.mem_of_getElem? (show fa[90]? = some _ from rfl))) trivial))
theorem sc_fitting : FnScope N_fitting ["setting", "anchor"] (defScope (top 30)) := ⟨rfl, rfl, rfl, by decide +kernel, rfl, by decide +kernel, by decide +kernel⟩
theorem m_fitting : mSs b_fitting (ctOf N_fitting (defScope (top 30))) (defBody (top 30)) = true := by decide +kernel
theorem good_fitting (T : Tx fa fn K mg) (hx : exB K = true) : GoodE Pg w K mg base 28 fe_fitting :=
  T.good (d := d_fitting) (List.mem_of_getElem? (show fn[13]? = some _ from rfl)) (List.mem_of_getElem? (show fa[13]? = some _ from rfl)) rfl (N := N_fitting) sc_fitting (fun _ _ _ _ _ _ us hl => match us, hl with | [_, _], _ => rfl) m_fitting (And.intro ((good_check_setting T hx).mono (by decide)) (And.intro ((good_check_anchor T hx).mono (by decide)) (And.intro ((good_find_fitting T hx).mono (by decide)) trivial)))
theorem sc_side_of : FnScope N_side_of ["setting", "anchor"] (defScope (top 31)) := ⟨rfl, rfl, rfl, by decide +kernel, rfl, by decide +kernel, by decide +kernel⟩
theorem m_side_of : mSs b_side_of (ctOf N_side_of (defScope (top 31))) (defBody (top 31)) = true := by decide +kernel
theorem good_side_of (T : Tx fa fn K mg) (hx : exB K = true) : GoodE Pg w K mg base 30 fe_side_of :=
  T.good (d := d_side_of) (List.mem_of_getElem? (show fn[14]? = some _ from rfl)) (List.mem_of_getElem? (show fa[14]? = some _ from rfl)) rfl (N := N_side_of) sc_side_of (fun _ _ _ _ _ _ us hl => match us, hl with | [_, _], _ => rfl) m_side_of (And.intro ((good_check_setting T hx).mono (by decide)) (And.intro ((good_check_anchor T hx).mono (by decide)) (And.intro ((good_find_side T hx).mono (by decide)) trivial)))
theorem sc_check_size : FnScope N_check_size ["setting", "size"] (defScope (top 33)) := ⟨rfl, rfl, rfl, by decide +kernel, rfl, by decide +kernel, by decide +kernel⟩
theorem m_check_size : mSs b_check_size (ctOf N_check_size (defScope (top 33))) (defBody (top 33)) = true := by decide +kernel
theorem good_check_size (T : Tx fa fn K mg) (hx : exB K = true) : GoodE Pg w K mg base 32 fe_check_size :=
  T.good (d := d_check_size) (List.mem_of_getElem? (show fn[15]? = some _ from rfl)) (List.mem_of_getElem? (show fa[15]? = some _ from rfl)) rfl (N := N_check_size) sc_check_size (fun _ _ _ _ _ _ us hl => match us, hl with | [_, _], _ => rfl) m_check_size (And.intro ((good_check_setting T hx).mono (by decide)) (And.intro ((good_is_size T hx).mono (by decide)) (And.intro (T.excC (List.mem_of_getElem? (show fa[105]? = some _ from rfl)) (List.mem_of_getElem? (show fa[104]? = some _ from rfl))) trivial)))
theorem sc_all_anchors : FnScope N_all_anchors ["setting", "size"] (defScope (top 34)) := ⟨rfl, rfl, rfl, by decide +kernel, rfl, by decide +kernel, by decide +kernel⟩
theorem m_all_anchors : mSs b_all_anchors (ctOf N_all_anchors (defScope (top 34))) (defBody (top 34)) = true := by decide +kernel
theorem good_all_anchors (T : Tx fa fn K mg) (hx : exB K = true) : GoodE Pg w K mg base 34 fe_all_anchors :=
  T.good (d := d_all_anchors) (List.mem_of_getElem? (show fn[16]? = some _ from rfl)) (List.mem_of_getElem? (show fa[16]? = some _ from rfl)) rfl (N := N_all_anchors) sc_all_anchors (fun _ _ _ _ _ _ us hl => match us, hl with | [_, _], _ => rfl) m_all_anchors trivial
theorem sc_count_places : FnScope N_count_places ["setting", "size"] (defScope (top 35)) := ⟨rfl, rfl, rfl, by decide +kernel, rfl, by decide +kernel, by decide +kernel⟩
theorem m_count_places : mSs b_count_places (ctOf N_count_places (defScope (top 35))) (defBody (top 35)) = true := by decide +kernel
theorem good_count_places (T : Tx fa fn K mg) (hx : exB K = true) : GoodE Pg w K mg base 36 fe_count_places :=
  T.good (d := d_count_places) (List.mem_of_getElem? (show fn[17]? = some _ from rfl)) (List.mem_of_getElem? (show fa[17]? = some _ from rfl)) rfl (N := N_count_places) sc_count_places (fun _ _ _ _ _ _ us hl => match us, hl with | [_, _], _ => rfl) m_count_places (And.intro ((good_check_size T hx).mono (by decide)) (And.intro ((good_all_anchors T hx).mono (by decide)) trivial))
theorem sc_find_sides : FnScope N_find_sides ["setting", "size"] (defScope (top 36)) := ⟨rfl, rfl, rfl, by decide +kernel, rfl, by decide +kernel, by decide +kernel⟩
theorem m_find_sides : mSs b_find_sides (ctOf N_find_sides (defScope (top 36))) (defBody (top 36)) = true := by decide +kernel
theorem good_find_sides (T : Tx fa fn K mg) (hx : exB K = true) : GoodE Pg w K mg base 38 fe_find_sides :=
  T.good (d := d_find_sides) (List.mem_of_getElem? (show fn[18]? = some _ from rfl)) (List.mem_of_getElem? (show fa[18]? = some _ from rfl)) rfl (N := N_find_sides) sc_find_sides (fun _ _ _ _ _ _ us hl => match us, hl with | [_, _], _ => rfl) m_find_sides (And.intro ((good_all_anchors T hx).mono (by decide)) (And.intro ((good_find_side T hx).mono (by decide)) trivial))
theorem sc_count_side : FnScope N_count_side ["setting", "size", "side"] (defScope (top 37)) := ⟨rfl, rfl, rfl, by decide +kernel, rfl, by decide +kernel, by decide +kernel⟩
theorem m_count_side : mSs b_count_side (ctOf N_count_side (defScope (top 37))) (defBody (top 37)) = true := by decide +kernel
theorem good_count_side (T : Tx fa fn K mg) (hx : exB K = true) : GoodE Pg w K mg base 40 fe_count_side :=
  T.good (d := d_count_side) (List.mem_of_getElem? (show fn[19]? = some _ from rfl)) (List.mem_of_getElem? (show fa[19]? = some _ from rfl)) rfl (N := N_count_side) sc_count_side (fun _ _ _ _ _ _ us hl => match us, hl with | [_, _, _], _ => rfl) m_count_side (And.intro ((good_check_size T hx).mono (by decide)) (And.intro (T.str (List.mem_of_getElem? (show fa[90]? = some _ from rfl))) (And.intro ((good_is_side T hx).mono (by decide)) (And.intro (T.excC (List.mem_of_getElem? (show fa[101]? = some _ from rfl)) (List.mem_of_getElem? (show fa[100]? = some _ from rfl))) (And.intro ((good_find_sides T hx).mono (by decide)) trivial)))))
theorem sc_find_used : FnScope N_find_used ["setting", "size"] (defScope (top 38)) := ⟨rfl, rfl, rfl, by decide +kernel, rfl, by decide +kernel, by decide +kernel⟩
theorem m_find_used : mSs b_find_used (ctOf N_find_used (defScope (top 38))) (defBody (top 38)) = true := by decide +kernel
theorem good_find_used (T : Tx fa fn K mg) (hx : exB K = true) : GoodE Pg w K mg base 42 fe_find_used :=
  T.good (d := d_find_used) (List.mem_of_getElem? (show fn[20]? = some _ from rfl)) (List.mem_of_getElem? (show fa[20]? = some _ from rfl)) rfl (N := N_find_used) sc_find_used (fun _ _ _ _ _ _ us hl => match us, hl with | [_, _], _ => rfl) m_find_used (And.intro ((good_find_sides T hx).mono (by decide)) (And.intro (T.str (List.mem_of_getElem? (show fa[90]? = some _ from rfl))) trivial))
theorem sc_used_sides : FnScope N_used_sides ["setting", "size"] (defScope (top 39)) := ⟨rfl, rfl, rfl, by decide +kernel, rfl, by decide +kernel, by decide +kernel⟩
theorem m_used_sides : mSs b_used_sides (ctOf N_used_sides (defScope (top 39))) (defBody (top 39)) = true := by decide +kernel
theorem good_used_sides (T : Tx fa fn K mg) (hx : exB K = true) : GoodE Pg w K mg base 44 fe_used_sides :=
  T.good (d := d_used_sides) (List.mem_of_getElem? (show fn[21]? = some _ from rfl)) (List.mem_of_getElem? (show fa[21]? = some _ from rfl)) rfl (N := N_used_sides) sc_used_sides (fun _ _ _ _ _ _ us hl => match us, hl with | [_, _], _ => rfl) m_used_sides (And.intro ((good_check_size T hx).mono (by decide)) (And.intro ((good_find_used T hx).mono (by decide)) trivial))
theorem sc_is_always_beside : FnScope N_is_always_beside ["setting", "size"] (defScope (top 40)) := ⟨rfl, rfl, rfl, by decide +kernel, rfl, by decide +kernel, by decide +kernel⟩
theorem m_is_always_beside : mSs b_is_always_beside (ctOf N_is_always_beside (defScope (top 40))) (defBody (top 40)) = true := by decide +kernel
theorem good_is_always_beside (T : Tx fa fn K mg) (hx : exB K = true) : GoodE Pg w K mg base 46 fe_is_always_beside :=
  T.good (d := d_is_always_beside) (List.mem_of_getElem? (show fn[22]? = some _ from rfl)) (List.mem_of_getElem? (show fa[22]? = some _ from rfl)) rfl (N := N_is_always_beside) sc_is_always_beside (fun _ _ _ _ _ _ us hl => match us, hl with | [_, _], _ => rfl) m_is_always_beside (And.intro ((good_check_size T hx).mono (by decide)) (And.intro (T.str (List.mem_of_getElem? (show fa[90]? = some _ from rfl))) (And.intro ((good_find_sides T hx).mono (by decide)) trivial)))
theorem sc_first_over : FnScope N_first_over ["setting", "size"] (defScope (top 41)) := ⟨rfl, rfl, rfl, by decide +kernel, rfl, by decide +kernel, by decide +kernel⟩
theorem m_first_over : mSs b_first_over (ctOf N_first_over (defScope (top 41))) (defBody (top 41)) = true := by decide +kernel
theorem good_first_over (T : Tx fa fn K mg) (hx : exB K = true) : GoodE Pg w K mg base 48 fe_first_over :=
  T.good (d := d_first_over) (List.mem_of_getElem? (show fn[23]? = some _ from rfl)) (List.mem_of_getElem? (show fa[23]? = some _ from rfl)) rfl (N := N_first_over) sc_first_over (fun _ _ _ _ _ _ us hl => match us, hl with | [_, _], _ => rfl) m_first_over (And.intro ((good_check_size T hx).mono (by decide)) (And.intro ((good_all_anchors T hx).mono (by decide)) (And.intro ((good_find_side T hx).mono (by decide)) (And.intro (T.str (List.mem_of_getElem? (show fa[90]? = some _ from rfl))) trivial))))
theorem sc_centred : FnScope N_centred ["start", "size", "box"] (defScope (top 43)) := ⟨rfl, rfl, rfl, by decide +kernel, rfl, by decide +kernel, by decide +kernel⟩
theorem m_centred : mSs b_centred (ctOf N_centred (defScope (top 43))) (defBody (top 43)) = true := by decide +kernel
theorem good_centred (T : Tx fa fn K mg) (hx : exB K = true) : GoodE Pg w K mg base 50 fe_centred :=
  T.good (d := d_centred) (List.mem_of_getElem? (show fn[24]? = some _ from rfl)) (List.mem_of_getElem? (show fa[24]? = some _ from rfl)) rfl (N := N_centred) sc_centred (fun _ _ _ _ _ _ us hl => match us, hl with | [_, _, _], _ => rfl) m_centred trivial
theorem sc_within : FnScope N_within ["start", "box", "screen"] (defScope (top 44)) := ⟨rfl, rfl, rfl, by decide +kernel, rfl, by decide +kernel, by decide +kernel⟩
theorem m_within : mSs b_within (ctOf N_within (defScope (top 44))) (defBody (top 44)) = true := by decide +kernel
theorem good_within (T : Tx fa fn K mg) (hx : exB K = true) : GoodE Pg w K mg base 52 fe_within :=
  T.good (d := d_within) (List.mem_of_getElem? (show fn[25]? = some _ from rfl)) (List.mem_of_getElem? (show fa[25]? = some _ from rfl)) rfl (N := N_within) sc_within (fun _ _ _ _ _ _ us hl => match us, hl with | [_, _, _], _ => rfl) m_within trivial
theorem sc_find_raw : FnScope N_find_raw ["setting", "anchor"] (defScope (top 45)) := ⟨rfl, rfl, rfl, by decide +kernel, rfl, by decide +kernel, by decide +kernel⟩
theorem m_find_raw : mSs b_find_raw (ctOf N_find_raw (defScope (top 45))) (defBody (top 45)) = true := by decide +kernel
theorem good_find_raw (T : Tx fa fn K mg) (hx : exB K = true) : GoodE Pg w K mg base 54 fe_find_raw :=
  T.good (d := d_find_raw) (List.mem_of_getElem? (show fn[26]? = some _ from rfl)) (List.mem_of_getElem? (show fa[26]? = some _ from rfl)) rfl (N := N_find_raw) sc_find_raw (fun _ _ _ _ _ _ us hl => match us, hl with | [_, _], _ => rfl) m_find_raw (And.intro ((good_centred T hx).mono (by decide)) (And.intro ((good_centred T hx).mono (by decide)) (And.intro ((good_find_side T hx).mono (by decide)) (And.intro (T.str (List.mem_of_getElem? (show fa[93]? = some _ from rfl))) (And.intro (T.str (List.mem_of_getElem? (show fa[86]? = some _ from rfl))) (And.intro (T.str (List.mem_of_getElem? (show fa[87]? = some _ from rfl))) (And.intro (T.str (List.mem_of_getElem? (show fa[91]? = some _ from rfl))) trivial)))))))
theorem sc_find_place : FnScope N_find_place ["setting", "anchor"] (defScope (top 46)) := ⟨rfl, rfl, rfl, by decide +kernel, rfl, by decide +kernel, by decide +kernel⟩
theorem m_find_place : mSs b_find_place (ctOf N_find_place (defScope (top 46))) (defBody (top 46)) = true := by decide +kernel
theorem good_find_place (T : Tx fa fn K mg) (hx : exB K = true) : GoodE Pg w K mg base 56 fe_find_place :=
  T.good (d := d_find_place) (List.mem_of_getElem? (show fn[27]? = some _ from rfl)) (List.mem_of_getElem? (show fa[27]? = some _ from rfl)) rfl (N := N_find_place) sc_find_place (fun _ _ _ _ _ _ us hl => match us, hl with | [_, _], _ => rfl) m_find_place (And.intro ((good_find_raw T hx).mono (by decide)) (And.intro ((good_within T hx).mono (by decide)) (And.intro ((good_within T hx).mono (by decide)) trivial)))
theorem sc_check_both : FnScope N_check_both ["setting", "anchor"] (defScope (top 47)) := ⟨rfl, rfl, rfl, by decide +kernel, rfl, by decide +kernel, by decide +kernel⟩
theorem m_check_both : mSs b_check_both (ctOf N_check_both (defScope (top 47))) (defBody (top 47)) = true := by decide +kernel
theorem good_check_both (T : Tx fa fn K mg) (hx : exB K = true) : GoodE Pg w K mg base 58 fe_check_both :=
  T.good (d := d_check_both) (List.mem_of_getElem? (show fn[28]? = some _ from rfl)) (List.mem_of_getElem? (show fa[28]? = some _ from rfl)) rfl (N := N_check_both) sc_check_both (fun _ _ _ _ _ _ us hl => match us, hl with | [_, _], _ => rfl) m_check_both (And.intro ((good_check_setting T hx).mono (by decide)) (And.intro ((good_check_anchor T hx).mono (by decide)) trivial))
theorem sc_place : FnScope N_place ["setting", "anchor"] (defScope (top 48)) := ⟨rfl, rfl, rfl, by decide +kernel, rfl, by decide +kernel, by decide +kernel⟩
theorem m_place : mSs b_place (ctOf N_place (defScope (top 48))) (defBody (top 48)) = true := by decide +kernel
theorem good_place (T : Tx fa fn K mg) (hx : exB K = true) : GoodE Pg w K mg base 60 fe_place :=
  T.good (d := d_place) (List.mem_of_getElem? (show fn[29]? = some _ from rfl)) (List.mem_of_getElem? (show fa[29]? = some _ from rfl)) rfl (N := N_place) sc_place (fun _ _ _ _ _ _ us hl => match us, hl with | [_, _], _ => rfl) m_place (And.intro ((good_check_both T hx).mono (by decide)) (And.intro ((good_find_place T hx).mono (by decide)) trivial))
theorem sc_common : FnScope N_common ["start", "size", "other", "length"] (defScope (top 49)) := ⟨rfl, rfl, rfl, by decide +kernel, rfl, by decide +kernel, by decide +kernel⟩
theorem m_common : mSs b_common (ctOf N_common (defScope (top 49))) (defBody (top 49)) = true := by decide +kernel
theorem good_common (T : Tx fa fn K mg) (hx : exB K = true) : GoodE Pg w K mg base 62 fe_common :=
  T.good (d := d_common) (List.mem_of_getElem? (show fn[30]? = some _ from rfl)) (List.mem_of_getElem? (show fa[30]? = some _ from rfl)) rfl (N := N_common) sc_common (fun _ _ _ _ _ _ us hl => match us, hl with | [_, _, _, _], _ => rfl) m_common trivial
theorem sc_overlap : FnScope N_overlap ["one", "other"] (defScope (top 50)) := ⟨rfl, rfl, rfl, by decide +kernel, rfl, by decide +kernel, by decide +kernel⟩
theorem m_overlap : mSs b_overlap (ctOf N_overlap (defScope (top 50))) (defBody (top 50)) = true := by decide +kernel
theorem good_overlap (T : Tx fa fn K mg) (hx : exB K = true) : GoodE Pg w K mg base 64 fe_overlap :=
  T.good (d := d_overlap) (List.mem_of_getElem? (show fn[31]? = some _ from rfl)) (List.mem_of_getElem? (show fa[31]? = some _ from rfl)) rfl (N := N_overlap) sc_overlap (fun _ _ _ _ _ _ us hl => match us, hl with | [_, _], _ => rfl) m_overlap (And.intro ((good_common T hx).mono (by decide)) (And.intro ((good_common T hx).mono (by decide)) trivial))
theorem sc_covers : FnScope N_covers ["setting", "anchor"] (defScope (top 51)) := ⟨rfl, rfl, rfl, by decide +kernel, rfl, by decide +kernel, by decide +kernel⟩
theorem m_covers : mSs b_covers (ctOf N_covers (defScope (top 51))) (defBody (top 51)) = true := by decide +kernel
theorem good_covers (T : Tx fa fn K mg) (hx : exB K = true) : GoodE Pg w K mg base 66 fe_covers :=
  T.good (d := d_covers) (List.mem_of_getElem? (show fn[32]? = some _ from rfl)) (List.mem_of_getElem? (show fa[32]? = some _ from rfl)) rfl (N := N_covers) sc_covers (fun _ _ _ _ _ _ us hl => match us, hl with | [_, _], _ => rfl) m_covers (And.intro ((good_check_both T hx).mono (by decide)) (And.intro ((good_overlap T hx).mono (by decide)) (And.intro ((good_find_place T hx).mono (by decide)) trivial)))
theorem sc_is_moved : FnScope N_is_moved ["setting", "anchor"] (defScope (top 52)) := ⟨rfl, rfl, rfl, by decide +kernel, rfl, by decide +kernel, by decide +kernel⟩
theorem m_is_moved : mSs b_is_moved (ctOf N_is_moved (defScope (top 52))) (defBody (top 52)) = true := by decide +kernel
theorem good_is_moved (T : Tx fa fn K mg) (hx : exB K = true) : GoodE Pg w K mg base 68 fe_is_moved :=
  T.good (d := d_is_moved) (List.mem_of_getElem? (show fn[33]? = some _ from rfl)) (List.mem_of_getElem? (show fa[33]? = some _ from rfl)) rfl (N := N_is_moved) sc_is_moved (fun _ _ _ _ _ _ us hl => match us, hl with | [_, _], _ => rfl) m_is_moved (And.intro ((good_check_both T hx).mono (by decide)) (And.intro ((good_find_place T hx).mono (by decide)) (And.intro ((good_find_raw T hx).mono (by decide)) trivial)))
theorem sc_free_fields : FnScope N_free_fields ["setting", "anchor"] (defScope (top 53)) := ⟨rfl, rfl, rfl, by decide +kernel, rfl, by decide +kernel, by decide +kernel⟩
theorem m_free_fields : mSs b_free_fields (ctOf N_free_fields (defScope (top 53))) (defBody (top 53)) = true := by decide +kernel
theorem good_free_fields (T : Tx fa fn K mg) (hx : exB K = true) : GoodE Pg w K mg base 70 fe_free_fields :=
  T.good (d := d_free_fields) (List.mem_of_getElem? (show fn[34]? = some _ from rfl)) (List.mem_of_getElem? (show fa[34]? = some _ from rfl)) rfl (N := N_free_fields) sc_free_fields (fun _ _ _ _ _ _ us hl => match us, hl with | [_, _], _ => rfl) m_free_fields (And.intro ((good_check_both T hx).mono (by decide)) (And.intro ((good_find_place T hx).mono (by decide)) (And.intro ((good_overlap T hx).mono (by decide)) trivial)))
theorem sc_check_start : FnScope N_check_start ["value", "most"] (defScope (top 55)) := ⟨rfl, rfl, rfl, by decide +kernel, rfl, by decide +kernel, by decide +kernel⟩
theorem m_check_start : mSs b_check_start (ctOf N_check_start (defScope (top 55))) (defBody (top 55)) = true := by decide +kernel
theorem good_check_start (T : Tx fa fn K mg) (hx : exB K = true) : GoodE Pg w K mg base 72 fe_check_start :=
  T.good (d := d_check_start) (List.mem_of_getElem? (show fn[35]? = some _ from rfl)) (List.mem_of_getElem? (show fa[35]? = some _ from rfl)) rfl (N := N_check_start) sc_check_start (fun _ _ _ _ _ _ us hl => match us, hl with | [_, _], _ => rfl) m_check_start (And.intro ((good_is_int T hx).mono (by decide)) (And.intro (T.excC (List.mem_of_getElem? (show fa[97]? = some _ from rfl)) (List.mem_of_getElem? (show fa[96]? = some _ from rfl))) trivial))
theorem sc_differ : FnScope N_differ ["setting", "one", "other"] (defScope (top 56)) := ⟨rfl, rfl, rfl, by decide +kernel, rfl, by decide +kernel, by decide +kernel⟩
theorem m_differ : mSs b_differ (ctOf N_differ (defScope (top 56))) (defBody (top 56)) = true := by decide +kernel
theorem good_differ (T : Tx fa fn K mg) (hx : exB K = true) : GoodE Pg w K mg base 74 fe_differ :=
  T.good (d := d_differ) (List.mem_of_getElem? (show fn[36]? = some _ from rfl)) (List.mem_of_getElem? (show fa[36]? = some _ from rfl)) rfl (N := N_differ) sc_differ (fun _ _ _ _ _ _ us hl => match us, hl with | [_, _, _], _ => rfl) m_differ (And.intro ((good_find_side T hx).mono (by decide)) (And.intro ((good_find_side T hx).mono (by decide)) trivial))
theorem sc_turning_tops : FnScope N_turning_tops ["setting", "size", "left"] (defScope (top 57)) := ⟨rfl, rfl, rfl, by decide +kernel, rfl, by decide +kernel, by decide +kernel⟩
theorem m_turning_tops : mSs b_turning_tops (ctOf N_turning_tops (defScope (top 57))) (defBody (top 57)) = true := by decide +kernel
theorem good_turning_tops (T : Tx fa fn K mg) (hx : exB K = true) : GoodE Pg w K mg base 76 fe_turning_tops :=
  T.good (d := d_turning_tops) (List.mem_of_getElem? (show fn[37]? = some _ from rfl)) (List.mem_of_getElem? (show fa[37]? = some _ from rfl)) rfl (N := N_turning_tops) sc_turning_tops (fun _ _ _ _ _ _ us hl => match us, hl with | [_, _, _], _ => rfl) m_turning_tops (And.intro ((good_check_size T hx).mono (by decide)) (And.intro ((good_check_start T hx).mono (by decide)) (And.intro ((good_differ T hx).mono (by decide)) trivial)))
theorem sc_turning_lefts : FnScope N_turning_lefts ["setting", "size", "top"] (defScope (top 58)) := ⟨rfl, rfl, rfl, by decide +kernel, rfl, by decide +kernel, by decide +kernel⟩
theorem m_turning_lefts : mSs b_turning_lefts (ctOf N_turning_lefts (defScope (top 58))) (defBody (top 58)) = true := by decide +kernel
theorem good_turning_lefts (T : Tx fa fn K mg) (hx : exB K = true) : GoodE Pg w K mg base 78 fe_turning_lefts :=
  T.good (d := d_turning_lefts) (List.mem_of_getElem? (show fn[38]? = some _ from rfl)) (List.mem_of_getElem? (show fa[38]? = some _ from rfl)) rfl (N := N_turning_lefts) sc_turning_lefts (fun _ _ _ _ _ _ us hl => match us, hl with | [_, _, _], _ => rfl) m_turning_lefts (And.intro ((good_check_size T hx).mono (by decide)) (And.intro ((good_check_start T hx).mono (by decide)) (And.intro ((good_differ T hx).mono (by decide)) trivial)))
theorem sc_find_way : FnScope N_find_way ["setting", "anchor", "other"] (defScope (top 59)) := ⟨rfl, rfl, rfl, by decide +kernel, rfl, by decide +kernel, by decide +kernel⟩
theorem m_find_way : mSs b_find_way (ctOf N_find_way (defScope (top 59))) (defBody (top 59)) = true := by decide +kernel
theorem good_find_way (T : Tx fa fn K mg) (hx : exB K = true) : GoodE Pg w K mg base 80 fe_find_way :=
  T.good (d := d_find_way) (List.mem_of_getElem? (show fn[39]? = some _ from rfl)) (List.mem_of_getElem? (show fa[39]? = some _ from rfl)) rfl (N := N_find_way) sc_find_way (fun _ _ _ _ _ _ us hl => match us, hl with | [_, _, _], _ => rfl) m_find_way (And.intro ((good_find_place T hx).mono (by decide)) (And.intro ((good_find_place T hx).mono (by decide)) trivial))
theorem sc_way_between : FnScope N_way_between ["setting", "anchor", "other"] (defScope (top 60)) := ⟨rfl, rfl, rfl, by decide +kernel, rfl, by decide +kernel, by decide +kernel⟩
theorem m_way_between : mSs b_way_between (ctOf N_way_between (defScope (top 60))) (defBody (top 60)) = true := by decide +kernel
theorem good_way_between (T : Tx fa fn K mg) (hx : exB K = true) : GoodE Pg w K mg base 82 fe_way_between :=
  T.good (d := d_way_between) (List.mem_of_getElem? (show fn[40]? = some _ from rfl)) (List.mem_of_getElem? (show fa[40]? = some _ from rfl)) rfl (N := N_way_between) sc_way_between (fun _ _ _ _ _ _ us hl => match us, hl with | [_, _, _], _ => rfl) m_way_between (And.intro ((good_check_setting T hx).mono (by decide)) (And.intro ((good_check_anchor T hx).mono (by decide)) (And.intro ((good_check_anchor T hx).mono (by decide)) (And.intro ((good_find_way T hx).mono (by decide)) trivial))))
theorem sc_greatest_jump : FnScope N_greatest_jump ["setting", "size"] (defScope (top 61)) := ⟨rfl, rfl, rfl, by decide +kernel, rfl, by decide +kernel, by decide +kernel⟩
theorem m_greatest_jump : mSs b_greatest_jump (ctOf N_greatest_jump (defScope (top 61))) (defBody (top 61)) = true := by decide +kernel
theorem good_greatest_jump (T : Tx fa fn K mg) (hx : exB K = true) : GoodE Pg w K mg base 84 fe_greatest_jump :=
  T.good (d := d_greatest_jump) (List.mem_of_getElem? (show fn[41]? = some _ from rfl)) (List.mem_of_getElem? (show fa[41]? = some _ from rfl)) rfl (N := N_greatest_jump) sc_greatest_jump (fun _ _ _ _ _ _ us hl => match us, hl with | [_, _], _ => rfl) m_greatest_jump (And.intro ((good_check_size T hx).mono (by decide)) (And.intro ((good_all_anchors T hx).mono (by decide)) (And.intro ((good_has_anchor T hx).mono (by decide)) (And.intro ((good_find_way T hx).mono (by decide)) trivial))))
theorem sc_set_sides : FnScope N_set_sides ["setting", "sides"] (defScope (top 63)) := ⟨rfl, rfl, rfl, by decide +kernel, rfl, by decide +kernel, by decide +kernel⟩
theorem m_set_sides : mSs b_set_sides (ctOf N_set_sides (defScope (top 63))) (defBody (top 63)) = true := by decide +kernel
theorem good_set_sides (T : Tx fa fn K mg) (hx : exB K = true) : GoodE Pg w K mg base 86 fe_set_sides :=
  T.good (d := d_set_sides) (List.mem_of_getElem? (show fn[42]? = some _ from rfl)) (List.mem_of_getElem? (show fa[42]? = some _ from rfl)) rfl (N := N_set_sides) sc_set_sides (fun _ _ _ _ _ _ us hl => match us, hl with | [_, _], _ => rfl) m_set_sides trivial
theorem sc_check_sides : FnScope N_check_sides ["setting", "sides"] (defScope (top 64)) := ⟨rfl, rfl, rfl, by decide +kernel, rfl, by decide +kernel, by decide +kernel⟩
theorem m_check_sides : mSs b_check_sides (ctOf N_check_sides (defScope (top 64))) (defBody (top 64)) = true := by decide +kernel
theorem good_check_sides (T : Tx fa fn K mg) (hx : exB K = true) : GoodE Pg w K mg base 88 fe_check_sides :=
  T.good (d := d_check_sides) (List.mem_of_getElem? (show fn[43]? = some _ from rfl)) (List.mem_of_getElem? (show fa[43]? = some _ from rfl)) rfl (N := N_check_sides) sc_check_sides (fun _ _ _ _ _ _ us hl => match us, hl with | [_, _], _ => rfl) m_check_sides (And.intro ((good_check_setting T hx).mono (by decide)) (And.intro ((good_are_sides T hx).mono (by decide)) (And.intro (T.excC (List.mem_of_getElem? (show fa[103]? = some _ from rfl)) (List.mem_of_getElem? (show fa[102]? = some _ from rfl))) trivial)))
theorem sc_with_sides : FnScope N_with_sides ["setting", "sides"] (defScope (top 65)) := ⟨rfl, rfl, rfl, by decide +kernel, rfl, by decide +kernel, by decide +kernel⟩
theorem m_with_sides : mSs b_with_sides (ctOf N_with_sides (defScope (top 65))) (defBody (top 65)) = true := by decide +kernel
theorem good_with_sides (T : Tx fa fn K mg) (hx : exB K = true) : GoodE Pg w K mg base 90 fe_with_sides :=
  T.good (d := d_with_sides) (List.mem_of_getElem? (show fn[44]? = some _ from rfl)) (List.mem_of_getElem? (show fa[44]? = some _ from rfl)) rfl (N := N_with_sides) sc_with_sides (fun _ _ _ _ _ _ us hl => match us, hl with | [_, _], _ => rfl) m_with_sides (And.intro ((good_check_sides T hx).mono (by decide)) (And.intro ((good_set_sides T hx).mono (by decide)) trivial))
theorem sc_find_parting : FnScope N_find_parting ["setting", "sides", "size"] (defScope (top 66)) := ⟨rfl, rfl, rfl, by decide +kernel, rfl, by decide +kernel, by decide +kernel⟩
theorem m_find_parting : mSs b_find_parting (ctOf N_find_parting (defScope (top 66))) (defBody (top 66)) = true := by decide +kernel
theorem good_find_parting (T : Tx fa fn K mg) (hx : exB K = true) : GoodE Pg w K mg base 92 fe_find_parting :=
  T.good (d := d_find_parting) (List.mem_of_getElem? (show fn[45]? = some _ from rfl)) (List.mem_of_getElem? (show fa[45]? = some _ from rfl)) rfl (N := N_find_parting) sc_find_parting (fun _ _ _ _ _ _ us hl => match us, hl with | [_, _, _], _ => rfl) m_find_parting (And.intro ((good_check_sides T hx).mono (by decide)) (And.intro ((good_check_size T hx).mono (by decide)) (And.intro ((good_set_sides T hx).mono (by decide)) (And.intro ((good_all_anchors T hx).mono (by decide)) (And.intro ((good_find_side T hx).mono (by decide)) (And.intro ((good_find_side T hx).mono (by decide)) trivial))))))
theorem sc_do_agree : FnScope N_do_agree ["setting", "sides", "size"] (defScope (top 67)) := ⟨rfl, rfl, rfl, by decide +kernel, rfl, by decide +kernel, by decide +kernel⟩
theorem m_do_agree : mSs b_do_agree (ctOf N_do_agree (defScope (top 67))) (defBody (top 67)) = true := by decide +kernel
theorem good_do_agree (T : Tx fa fn K mg) (hx : exB K = true) : GoodE Pg w K mg base 94 fe_do_agree :=
  T.good (d := d_do_agree) (List.mem_of_getElem? (show fn[46]? = some _ from rfl)) (List.mem_of_getElem? (show fa[46]? = some _ from rfl)) rfl (N := N_do_agree) sc_do_agree (fun _ _ _ _ _ _ us hl => match us, hl with | [_, _, _], _ => rfl) m_do_agree (And.intro ((good_find_parting T hx).mono (by decide)) trivial)
theorem sc_parting_anchor : FnScope N_parting_anchor ["setting", "sides", "size"] (defScope (top 68)) := ⟨rfl, rfl, rfl, by decide +kernel, rfl, by decide +kernel, by decide +kernel⟩
theorem m_parting_anchor : mSs b_parting_anchor (ctOf N_parting_anchor (defScope (top 68))) (defBody (top 68)) = true := by decide +kernel
theorem good_parting_anchor (T : Tx fa fn K mg) (hx : exB K = true) : GoodE Pg w K mg base 96 fe_parting_anchor :=
  T.good (d := d_parting_anchor) (List.mem_of_getElem? (show fn[47]? = some _ from rfl)) (List.mem_of_getElem? (show fa[47]? = some _ from rfl)) rfl (N := N_parting_anchor) sc_parting_anchor (fun _ _ _ _ _ _ us hl => match us, hl with | [_, _, _], _ => rfl) m_parting_anchor (And.intro ((good_find_parting T hx).mono (by decide)) trivial)
theorem sc_needless_sides : FnScope N_needless_sides ["setting", "size"] (defScope (top 69)) := ⟨rfl, rfl, rfl, by decide +kernel, rfl, by decide +kernel, by decide +kernel⟩
theorem m_needless_sides : mSs b_needless_sides (ctOf N_needless_sides (defScope (top 69))) (defBody (top 69)) = true := by decide +kernel
theorem good_needless_sides (T : Tx fa fn K mg) (hx : exB K = true) : GoodE Pg w K mg base 98 fe_needless_sides :=
  T.good (d := d_needless_sides) (List.mem_of_getElem? (show fn[48]? = some _ from rfl)) (List.mem_of_getElem? (show fa[48]? = some _ from rfl)) rfl (N := N_needless_sides) sc_needless_sides (fun _ _ _ _ _ _ us hl => match us, hl with | [_, _], _ => rfl) m_needless_sides (And.intro ((good_check_size T hx).mono (by decide)) (And.intro ((good_find_used T hx).mono (by decide)) trivial))
theorem sc_all_lists : FnScope N_all_lists ["many"] (defScope (top 70)) := ⟨rfl, rfl, rfl, by decide +kernel, rfl, by decide +kernel, by decide +kernel⟩
theorem m_all_lists : mSs b_all_lists (ctOf N_all_lists (defScope (top 70))) (defBody (top 70)) = true := by decide +kernel
theorem good_all_lists (T : Tx fa fn K mg) (hx : exB K = true) : GoodE Pg w K mg base 100 fe_all_lists :=
  T.good (d := d_all_lists) (List.mem_of_getElem? (show fn[49]? = some _ from rfl)) (List.mem_of_getElem? (show fa[49]? = some _ from rfl)) rfl (N := N_all_lists) sc_all_lists (fun _ _ _ _ _ _ us hl => match us, hl with | [_], _ => rfl) m_all_lists (And.intro (T.tupS (zs := ["top", "bottom", "left", "right"]) (List.mem_of_getElem? (show fa[92]? = some _ from rfl)) (exB_0 hx)) trivial)
theorem sc_shortest_list : FnScope N_shortest_list ["setting", "size"] (defScope (top 71)) := ⟨rfl, rfl, rfl, by decide +kernel, rfl, by decide +kernel, by decide +kernel⟩
theorem m_shortest_list : mSs b_shortest_list (ctOf N_shortest_list (defScope (top 71))) (defBody (top 71)) = true := by decide +kernel
theorem good_shortest_list (T : Tx fa fn K mg) (hx : exB K = true) : GoodE Pg w K mg base 102 fe_shortest_list :=
  T.good (d := d_shortest_list) (List.mem_of_getElem? (show fn[50]? = some _ from rfl)) (List.mem_of_getElem? (show fa[50]? = some _ from rfl)) rfl (N := N_shortest_list) sc_shortest_list (fun _ _ _ _ _ _ us hl => match us, hl with | [_, _], _ => rfl) m_shortest_list (And.intro ((good_check_size T hx).mono (by decide)) (And.intro ((good_find_sides T hx).mono (by decide)) (And.intro (T.tupS (zs := ["top", "bottom", "left", "right"]) (List.mem_of_getElem? (show fa[92]? = some _ from rfl)) (exB_0 hx)) (And.intro ((good_all_lists T hx).mono (by decide)) (And.intro ((good_find_sides T hx).mono (by decide)) (And.intro ((good_set_sides T hx).mono (by decide)) trivial))))))
theorem sc_find_tops : FnScope N_find_tops ["setting", "size"] (defScope (top 73)) := ⟨rfl, rfl, rfl, by decide +kernel, rfl, by decide +kernel, by decide +kernel⟩
theorem m_find_tops : mSs b_find_tops (ctOf N_find_tops (defScope (top 73))) (defBody (top 73)) = true := by decide +kernel
theorem good_find_tops (T : Tx fa fn K mg) (hx : exB K = true) : GoodE Pg w K mg base 104 fe_find_tops :=
  T.good (d := d_find_tops) (List.mem_of_getElem? (show fn[51]? = some _ from rfl)) (List.mem_of_getElem? (show fa[51]? = some _ from rfl)) rfl (N := N_find_tops) sc_find_tops (fun _ _ _ _ _ _ us hl => match us, hl with | [_, _], _ => rfl) m_find_tops (And.intro (T.str (List.mem_of_getElem? (show fa[93]? = some _ from rfl))) (And.intro (T.str (List.mem_of_getElem? (show fa[86]? = some _ from rfl))) (And.intro ((good_has_room T hx).mono (by decide)) trivial)))
theorem sc_find_lefts : FnScope N_find_lefts ["setting", "size"] (defScope (top 74)) := ⟨rfl, rfl, rfl, by decide +kernel, rfl, by decide +kernel, by decide +kernel⟩
theorem m_find_lefts : mSs b_find_lefts (ctOf N_find_lefts (defScope (top 74))) (defBody (top 74)) = true := by decide +kernel
theorem good_find_lefts (T : Tx fa fn K mg) (hx : exB K = true) : GoodE Pg w K mg base 106 fe_find_lefts :=
  T.good (d := d_find_lefts) (List.mem_of_getElem? (show fn[52]? = some _ from rfl)) (List.mem_of_getElem? (show fa[52]? = some _ from rfl)) rfl (N := N_find_lefts) sc_find_lefts (fun _ _ _ _ _ _ us hl => match us, hl with | [_, _], _ => rfl) m_find_lefts (And.intro (T.str (List.mem_of_getElem? (show fa[87]? = some _ from rfl))) (And.intro (T.str (List.mem_of_getElem? (show fa[91]? = some _ from rfl))) (And.intro ((good_has_room T hx).mono (by decide)) trivial)))
theorem sc_tight_tops : FnScope N_tight_tops ["setting", "size"] (defScope (top 75)) := ⟨rfl, rfl, rfl, by decide +kernel, rfl, by decide +kernel, by decide +kernel⟩
theorem m_tight_tops : mSs b_tight_tops (ctOf N_tight_tops (defScope (top 75))) (defBody (top 75)) = true := by decide +kernel
theorem good_tight_tops (T : Tx fa fn K mg) (hx : exB K = true) : GoodE Pg w K mg base 108 fe_tight_tops :=
  T.good (d := d_tight_tops) (List.mem_of_getElem? (show fn[53]? = some _ from rfl)) (List.mem_of_getElem? (show fa[53]? = some _ from rfl)) rfl (N := N_tight_tops) sc_tight_tops (fun _ _ _ _ _ _ us hl => match us, hl with | [_, _], _ => rfl) m_tight_tops (And.intro ((good_check_size T hx).mono (by decide)) (And.intro ((good_find_tops T hx).mono (by decide)) trivial))
theorem sc_tight_lefts : FnScope N_tight_lefts ["setting", "size"] (defScope (top 76)) := ⟨rfl, rfl, rfl, by decide +kernel, rfl, by decide +kernel, by decide +kernel⟩
theorem m_tight_lefts : mSs b_tight_lefts (ctOf N_tight_lefts (defScope (top 76))) (defBody (top 76)) = true := by decide +kernel
theorem good_tight_lefts (T : Tx fa fn K mg) (hx : exB K = true) : GoodE Pg w K mg base 110 fe_tight_lefts :=
  T.good (d := d_tight_lefts) (List.mem_of_getElem? (show fn[54]? = some _ from rfl)) (List.mem_of_getElem? (show fa[54]? = some _ from rfl)) rfl (N := N_tight_lefts) sc_tight_lefts (fun _ _ _ _ _ _ us hl => match us, hl with | [_, _], _ => rfl) m_tight_lefts (And.intro ((good_check_size T hx).mono (by decide)) (And.intro ((good_find_lefts T hx).mono (by decide)) trivial))
theorem sc_least_length : FnScope N_least_length ["setting", "size", "which", "pair"] (defScope (top 77)) := ⟨rfl, rfl, rfl, by decide +kernel, rfl, by decide +kernel, by decide +kernel⟩
theorem m_least_length : mSs b_least_length (ctOf N_least_length (defScope (top 77))) (defBody (top 77)) = true := by decide +kernel
theorem good_least_length (T : Tx fa fn K mg) (hx : exB K = true) : GoodE Pg w K mg base 112 fe_least_length :=
  T.good (d := d_least_length) (List.mem_of_getElem? (show fn[55]? = some _ from rfl)) (List.mem_of_getElem? (show fa[55]? = some _ from rfl)) rfl (N := N_least_length) sc_least_length (fun _ _ _ _ _ _ us hl => match us, hl with | [_, _, _, _], _ => rfl) m_least_length trivial
theorem sc_least_height : FnScope N_least_height ["setting", "size"] (defScope (top 78)) := ⟨rfl, rfl, rfl, by decide +kernel, rfl, by decide +kernel, by decide +kernel⟩
theorem m_least_height : mSs b_least_height (ctOf N_least_height (defScope (top 78))) (defBody (top 78)) = true := by decide +kernel
theorem good_least_height (T : Tx fa fn K mg) (hx : exB K = true) : GoodE Pg w K mg base 114 fe_least_height :=
  T.good (d := d_least_height) (List.mem_of_getElem? (show fn[56]? = some _ from rfl)) (List.mem_of_getElem? (show fa[56]? = some _ from rfl)) rfl (N := N_least_height) sc_least_height (fun _ _ _ _ _ _ us hl => match us, hl with | [_, _], _ => rfl) m_least_height (And.intro ((good_check_size T hx).mono (by decide)) (And.intro ((good_find_lefts T hx).mono (by decide)) (And.intro ((good_least_length T hx).mono (by decide)) (And.intro (T.str (List.mem_of_getElem? (show fa[93]? = some _ from rfl))) (And.intro (T.str (List.mem_of_getElem? (show fa[86]? = some _ from rfl))) trivial)))))
theorem sc_least_width : FnScope N_least_width ["setting", "size"] (defScope (top 79)) := ⟨rfl, rfl, rfl, by decide +kernel, rfl, by decide +kernel, by decide +kernel⟩
theorem m_least_width : mSs b_least_width (ctOf N_least_width (defScope (top 79))) (defBody (top 79)) = true := by decide +kernel
theorem good_least_width (T : Tx fa fn K mg) (hx : exB K = true) : GoodE Pg w K mg base 116 fe_least_width :=
  T.good (d := d_least_width) (List.mem_of_getElem? (show fn[57]? = some _ from rfl)) (List.mem_of_getElem? (show fa[57]? = some _ from rfl)) rfl (N := N_least_width) sc_least_width (fun _ _ _ _ _ _ us hl => match us, hl with | [_, _], _ => rfl) m_least_width (And.intro ((good_check_size T hx).mono (by decide)) (And.intro ((good_find_tops T hx).mono (by decide)) (And.intro ((good_least_length T hx).mono (by decide)) (And.intro (T.str (List.mem_of_getElem? (show fa[87]? = some _ from rfl))) (And.intro (T.str (List.mem_of_getElem? (show fa[91]? = some _ from rfl))) trivial)))))
theorem sc_greatest_gap : FnScope N_greatest_gap ["setting", "size"] (defScope (top 80)) := ⟨rfl, rfl, rfl, by decide +kernel, rfl, by decide +kernel, by decide +kernel⟩
theorem m_greatest_gap : mSs b_greatest_gap (ctOf N_greatest_gap (defScope (top 80))) (defBody (top 80)) = true := by decide +kernel
theorem good_greatest_gap (T : Tx fa fn K mg) (hx : exB K = true) : GoodE Pg w K mg base 118 fe_greatest_gap :=
  T.good (d := d_greatest_gap) (List.mem_of_getElem? (show fn[58]? = some _ from rfl)) (List.mem_of_getElem? (show fa[58]? = some _ from rfl)) rfl (N := N_greatest_gap) sc_greatest_gap (fun _ _ _ _ _ _ us hl => match us, hl with | [_, _], _ => rfl) m_greatest_gap (And.intro ((good_check_size T hx).mono (by decide)) (And.intro (T.int (List.mem_of_getElem? (show fa[88]? = some _ from rfl))) (And.intro ((good_find_tops T hx).mono (by decide)) (And.intro ((good_find_lefts T hx).mono (by decide)) trivial))))
theorem sc_law_pick : FnScope N_law_pick ["script", "k", "many"] (defScope (top 82)) := ⟨rfl, rfl, rfl, by decide +kernel, rfl, by decide +kernel, by decide +kernel⟩
theorem m_law_pick : mSs b_law_pick (ctOf N_law_pick (defScope (top 82))) (defBody (top 82)) = true := by decide +kernel
theorem good_law_pick (T : Tx fa fn K mg) (hx : exB K = true) : GoodE Pg w K mg base 120 fe_law_pick :=
  T.good (d := d_law_pick) (List.mem_of_getElem? (show fn[59]? = some _ from rfl)) (List.mem_of_getElem? (show fa[59]? = some _ from rfl)) rfl (N := N_law_pick) sc_law_pick (fun _ _ _ _ _ _ us hl => match us, hl with | [_, _, _], _ => rfl) m_law_pick trivial
theorem sc_law_draw : FnScope N_law_draw ["script", "at", "most"] (defScope (top 83)) := ⟨rfl, rfl, rfl, by decide +kernel, rfl, by decide +kernel, by decide +kernel⟩
theorem m_law_draw : mSs b_law_draw (ctOf N_law_draw (defScope (top 83))) (defBody (top 83)) = true := by decide +kernel
theorem good_law_draw (T : Tx fa fn K mg) (hx : exB K = true) : GoodE Pg w K mg base 122 fe_law_draw :=
  T.good (d := d_law_draw) (List.mem_of_getElem? (show fn[60]? = some _ from rfl)) (List.mem_of_getElem? (show fa[60]? = some _ from rfl)) rfl (N := N_law_draw) sc_law_draw (fun _ _ _ _ _ _ us hl => match us, hl with | [_, _, _], _ => rfl) m_law_draw (And.intro ((good_law_pick T hx).mono (by decide)) (And.intro ((good_law_pick T hx).mono (by decide)) (And.intro ((good_law_pick T hx).mono (by decide)) (And.intro ((good_law_pick T hx).mono (by decide)) (And.intro ((good_law_pick T hx).mono (by decide)) (And.intro ((good_law_pick T hx).mono (by decide)) (And.intro ((good_law_pick T hx).mono (by decide)) trivial)))))))
theorem sc_law_class : FnScope N_law_class ["error"] (defScope (top 84)) := ⟨rfl, rfl, rfl, by decide +kernel, rfl, by decide +kernel, by decide +kernel⟩
theorem m_law_class : mSs b_law_class (ctOfH N_law_class (defScope (top 84))) (defBody (top 84)) = true := by decide +kernel
theorem good_law_class (T : Tx fa fn K mg) (hx : exB K = true) : GoodHE Pg w K mg base 124 fe_law_class :=
  T.goodH (d := d_law_class) (List.mem_of_getElem? (show fn[61]? = some _ from rfl)) (List.mem_of_getElem? (show fa[61]? = some _ from rfl)) rfl (N := N_law_class) sc_law_class (fun _ _ _ _ _ _ us hl => match us, hl with | [_], _ => rfl) rfl m_law_class (And.intro (T.isx (List.mem_of_getElem? (show fa[98]? = some _ from rfl)) (exB_3 hx)) (And.intro (T.isx (List.mem_of_getElem? (show fa[94]? = some _ from rfl)) (exB_1 hx)) (And.intro (T.isx (List.mem_of_getElem? (show fa[100]? = some _ from rfl)) (exB_4 hx)) (And.intro (T.isx (List.mem_of_getElem? (show fa[104]? = some _ from rfl)) (exB_6 hx)) (And.intro (T.isx (List.mem_of_getElem? (show fa[96]? = some _ from rfl)) (exB_2 hx)) (And.intro (T.isx (List.mem_of_getElem? (show fa[102]? = some _ from rfl)) (exB_5 hx)) (And.intro (T.isv (exB_8 hx)) trivial)))))))
theorem sc_law_result : FnScope N_law_result ["call"] (defScope (top 85)) := ⟨rfl, rfl, rfl, by decide +kernel, rfl, by decide +kernel, by decide +kernel⟩
theorem m_law_result : mSs b_law_result (ctOf N_law_result (defScope (top 85))) (defBody (top 85)) = true := by decide +kernel
theorem good_law_result (T : Tx fa fn K mg) (hx : exB K = true) : GoodE Pg w K mg base 126 fe_law_result :=
  T.good (d := d_law_result) (List.mem_of_getElem? (show fn[62]? = some _ from rfl)) (List.mem_of_getElem? (show fa[62]? = some _ from rfl)) rfl (N := N_law_result) sc_law_result (fun _ _ _ _ _ _ us hl => match us, hl with | [_], _ => rfl) m_law_result (And.intro (T.tri (List.mem_of_getElem? (show fa[106]? = some _ from rfl)) (exB_7 hx)) (And.intro ⟨_, by decide, good_is_anchor T hx⟩ (And.intro ⟨_, by decide, good_do_fit T hx⟩ (And.intro ⟨_, by decide, good_fitting T hx⟩ (And.intro ⟨_, by decide, good_side_of T hx⟩ (And.intro ⟨_, by decide, good_place T hx⟩ (And.intro ⟨_, by decide, good_covers T hx⟩ (And.intro ⟨_, by decide, good_is_moved T hx⟩ (And.intro ⟨_, by decide, good_free_fields T hx⟩ (And.intro ⟨_, by decide, good_count_places T hx⟩ (And.intro ⟨_, by decide, good_count_side T hx⟩ (And.intro ⟨_, by decide, good_used_sides T hx⟩ (And.intro ⟨_, by decide, good_is_always_beside T hx⟩ (And.intro ⟨_, by decide, good_first_over T hx⟩ (And.intro ⟨_, by decide, good_tight_tops T hx⟩ (And.intro ⟨_, by decide, good_tight_lefts T hx⟩ (And.intro ⟨_, by decide, good_least_height T hx⟩ (And.intro ⟨_, by decide, good_least_width T hx⟩ (And.intro ⟨_, by decide, good_greatest_gap T hx⟩ (And.intro ⟨_, by decide, good_turning_tops T hx⟩ (And.intro ⟨_, by decide, good_turning_lefts T hx⟩ (And.intro ⟨_, by decide, good_way_between T hx⟩ (And.intro ⟨_, by decide, good_greatest_jump T hx⟩ (And.intro ⟨_, by decide, good_with_sides T hx⟩ (And.intro ⟨_, by decide, good_do_agree T hx⟩ (And.intro ⟨_, by decide, good_parting_anchor T hx⟩ (And.intro ⟨_, by decide, good_needless_sides T hx⟩ (And.intro ⟨_, by decide, good_shortest_list T hx⟩ (And.intro ((good_law_class T hx).mono (by decide)) trivial)))))))))))))))))))))))))))))
theorem sc_law_all : FnScope N_law_all ["calls", "name"] (defScope (top 86)) := ⟨rfl, rfl, rfl, by decide +kernel, rfl, by decide +kernel, by decide +kernel⟩
theorem m_law_all : mSs b_law_all (ctOf N_law_all (defScope (top 86))) (defBody (top 86)) = true := by decide +kernel
theorem good_law_all (T : Tx fa fn K mg) (hx : exB K = true) : GoodE Pg w K mg base 128 fe_law_all :=
  T.good (d := d_law_all) (List.mem_of_getElem? (show fn[63]? = some _ from rfl)) (List.mem_of_getElem? (show fa[63]? = some _ from rfl)) rfl (N := N_law_all) sc_law_all (fun _ _ _ _ _ _ us hl => match us, hl with | [_, _], _ => rfl) m_law_all (And.intro ((good_law_result T hx).mono (by decide)) trivial)
theorem sc_law_settings : FnScope N_law_settings ["no"] (defScope (top 87)) := ⟨rfl, rfl, rfl, by decide +kernel, rfl, by decide +kernel, by decide +kernel⟩
theorem m_law_settings : mkB N_law_settings (defScope (top 87)) 1 1 "calls" ls_law_settings (defBody (top 87)) = true := by decide +kernel
theorem good_law_settings (T : Tx fa fn K mg) (hx : exB K = true) (hL : LamX.TabB base mg (He.cT K ("_law_settings", none)).1 (tabA K "_law_settings")) : GoodMkE Pg w K mg base 130 "_law_settings" 1 ls_law_settings :=
  T.goodMk (d := d_law_settings) (List.mem_of_getElem? (show fn[64]? = some _ from rfl)) (List.mem_of_getElem? (show fa[64]? = some _ from rfl)) rfl (N := N_law_settings) (ps := ["no"]) sc_law_settings (fun _ _ _ _ _ _ us hl => match us, hl with | [_], _ => rfl) hL m_law_settings
theorem sc_law_sized : FnScope N_law_sized ["setting", "no"] (defScope (top 88)) := ⟨rfl, rfl, rfl, by decide +kernel, rfl, by decide +kernel, by decide +kernel⟩
theorem m_law_sized : mkB N_law_sized (defScope (top 88)) 2 2 "calls" ls_law_sized (defBody (top 88)) = true := by decide +kernel
theorem good_law_sized (T : Tx fa fn K mg) (hx : exB K = true) (hL : LamX.TabB base mg (He.cT K ("_law_sized", none)).1 (tabA K "_law_sized")) : GoodMkE Pg w K mg base 132 "_law_sized" 2 ls_law_sized :=
  T.goodMk (d := d_law_sized) (List.mem_of_getElem? (show fn[65]? = some _ from rfl)) (List.mem_of_getElem? (show fa[65]? = some _ from rfl)) rfl (N := N_law_sized) (ps := ["setting", "no"]) sc_law_sized (fun _ _ _ _ _ _ us hl => match us, hl with | [_, _], _ => rfl) hL m_law_sized
theorem sc_law_anchored : FnScope N_law_anchored ["setting", "no"] (defScope (top 89)) := ⟨rfl, rfl, rfl, by decide +kernel, rfl, by decide +kernel, by decide +kernel⟩
theorem m_law_anchored : mkB N_law_anchored (defScope (top 89)) 2 2 "calls" ls_law_anchored (defBody (top 89)) = true := by decide +kernel
theorem good_law_anchored (T : Tx fa fn K mg) (hx : exB K = true) (hL : LamX.TabB base mg (He.cT K ("_law_anchored", none)).1 (tabA K "_law_anchored")) : GoodMkE Pg w K mg base 134 "_law_anchored" 2 ls_law_anchored :=
  T.goodMk (d := d_law_anchored) (List.mem_of_getElem? (show fn[66]? = some _ from rfl)) (List.mem_of_getElem? (show fa[66]? = some _ from rfl)) rfl (N := N_law_anchored) (ps := ["setting", "no"]) sc_law_anchored (fun _ _ _ _ _ _ us hl => match us, hl with | [_, _], _ => rfl) hL m_law_anchored
theorem sc_law : FnScope N_law ["script"] (defScope (top 90)) := ⟨rfl, rfl, rfl, by decide +kernel, rfl, by decide +kernel, by decide +kernel⟩
theorem m_law : mSs b_law (ctOfL "law" N_law (defScope (top 90))) (defBody (top 90)) = true := by decide +kernel
theorem frees (c : He.SaysD fa fn K) {h : Heap} (X : K.In h) (G : h.Ns mainGlobals mg) : ∀ x ∈ bnames, mg x = none := by
  have key : ∀ i x, fa[i]? = some (He.Fa.free x) → mg x = none := fun i x e => He.free_ok X G (c.facts (List.mem_of_getElem? e))
  intro x hx
  simp only [bnames, List.mem_cons, List.not_mem_nil, or_false] at hx
  rcases hx with rfl | rfl | rfl | rfl | rfl | rfl | rfl | rfl | rfl | rfl | rfl | rfl | rfl | rfl | rfl | rfl | rfl | rfl
  · exact key 76 _ rfl
  · exact key 78 _ rfl
  · exact key 79 _ rfl
  · exact key 69 _ rfl
  · exact key 77 _ rfl
  · exact key 84 _ rfl
  · exact key 81 _ rfl
  · exact key 70 _ rfl
  · exact key 71 _ rfl
  · exact key 80 _ rfl
  · exact key 82 _ rfl
  · exact key 83 _ rfl
  · exact key 74 _ rfl
  · exact key 75 _ rfl
  · exact key 72 _ rfl
  · exact key 73 _ rfl
  · exact key 85 _ rfl
  · exact key 68 _ rfl
end
end LW
namespace LW
open PySem PySem.Spec PyProof.Rows L2 PD
theorem law_end {w : World} {K : PySem.W.Frag} {mg : Str → Option Value} {f : Addr} {h : Heap} (T : Tx fa fn K mg) (hx : exB K = true) (KX : K.In h) (t1 : ∀ g ∈ gs, PySem.W.codeHdIn K (He.cT K (g, none)).1 (tabA K g) = true) (t2 : ∀ g ∈ gs, K.lookup (tabA K g) = none) (t3 : ∀ g ∈ gs, h.get? (tabA K g) = some { cls := .none, data := .fields #[] }) (hmg : mg ("law" : Str) = some (.ref f)) : ∃ K : PySem.W.Frag, K.In h ∧ LamX.LawAtS PySem.Challenge.rw_popupsides_k26_errors w K (L2.CX PySem.Challenge.rw_popupsides_k26_errors.prog w) 136 63 "script" mg f h :=
  T.law_endT (gs := gs) (d := d_law) (List.mem_of_getElem? (show fn[67]? = some _ from rfl)) (List.mem_of_getElem? (show fa[67]? = some _ from rfl)) rfl (N := N_law) sc_law (fun _ _ _ _ _ _ us hl => match us, hl with | [_], _ => rfl) m_law (fun base hL => (And.intro ((good_law_draw T hx).mono (by decide)) (And.intro ((good_law_pick T hx).mono (by decide)) (And.intro ((good_law_all T hx).mono (by decide)) (And.intro ((good_law_settings T hx (hL _ (List.mem_of_getElem? (show gs[0]? = some _ from rfl)))).mono (by decide)) (And.intro ((good_law_all T hx).mono (by decide)) (And.intro ((good_law_sized T hx (hL _ (List.mem_of_getElem? (show gs[1]? = some _ from rfl)))).mono (by decide)) (And.intro ((good_law_all T hx).mono (by decide)) (And.intro ((good_law_anchored T hx (hL _ (List.mem_of_getElem? (show gs[2]? = some _ from rfl)))).mono (by decide)) (And.intro ((good_law_all T hx).mono (by decide)) (And.intro (hL _ (List.mem_of_getElem? (show gs[3]? = some _ from rfl))) (And.intro ((good_law_all T hx).mono (by decide)) (And.intro (hL _ (List.mem_of_getElem? (show gs[3]? = some _ from rfl))) (And.intro ((good_law_all T hx).mono (by decide)) (And.intro (hL _ (List.mem_of_getElem? (show gs[3]? = some _ from rfl))) (And.intro ((good_law_all T hx).mono (by decide)) (And.intro (hL _ (List.mem_of_getElem? (show gs[3]? = some _ from rfl))) (And.intro ((good_turning_tops T hx).mono (by decide)) trivial)))))))))))))))))) the_law KX (exB_last hx) t1 t2 t3 hmg
end LW
open PySem PySem.W PySem.Calls PyProof.Rows
set_option maxHeartbeats 0 in
theorem PySem.Challenge.cw_popupsides_k26_errors_holds : PySem.Challenge.rw_popupsides_k26_errors.Holds := by
  w_on; o_law
  refine HandSHeadRun.head_any (r := OpenLaw.row PySem.Challenge.rw_popupsides_k26_errors) (q := view (OpenLaw.row PySem.Challenge.rw_popupsides_k26_errors).prog [90]) (H := LW.hk) (ob := LW.obL) (M := 8000) (loose := LW.namesL) (d := HandSHeadRun.topDef (OpenLaw.row PySem.Challenge.rw_popupsides_k26_errors).prog 90) (kwd := []) LW.obL_eq
    (by kernel_rfl) (fun s => by kernel_rfl) LW.runL (by kernel_rfl) (by kernel_rfl) (by kernel_rfl) (by rfl) (by first | assumption | decide +kernel) (by decide +kernel) ⟨rfl, rfl, rfl, rfl, rfl, by decide +kernel⟩ ?hw ?hc
  case hw => w_witness2
  case hc =>
    refine PD.walk_pdT (l := PySem.Challenge.rw_popupsides_k26_errors) (n := 63) (k := 136) (x := "script") rfl (by decide) (by kernel_rfl) ⟨rfl, by decide, by decide⟩ ?F
    intro w mg fa h Y G hmg0
    obtain ⟨K, KX, c⟩ := Y
    have e0 : (HandSHeadRun.topDef (OpenLaw.row PySem.Challenge.rw_popupsides_k26_errors).prog 90).name = ("law" : PySem.Str) := by kernel_rfl
    have hmg : mg ("law" : PySem.Str) = some (.ref fa) := by rw [← e0]; exact hmg0
    have T : PD.Tx LW.fa LW.fn K mg := ⟨c.t.d, ⟨h, KX, G⟩, LW.frees c.t.d KX G⟩
    exact LW.law_end T c.more KX (fun g hg => c.hd (g, none) (List.mem_map.mpr ⟨g, hg, rfl⟩)) (fun g hg => c.out (g, none) (List.mem_map.mpr ⟨g, hg, rfl⟩)) (fun g hg => c.empty (g, none) (List.mem_map.mpr ⟨g, hg, rfl⟩)) hmg
